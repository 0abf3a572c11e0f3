import PyProof.Rows.All
import Wide.All
import OpenK.AllK
import Wide.FinOn
import HandS.ForMost
import HandS.IsInst
import HandS.Style
import HandS.Wide
import HandS.TupAny
import HandS.Flow
import HandS.Defaults
import HandS.SortRule
import HandS.Conv
import HandS.SortInts
import KE.GoesEnum
import HandS.Iter
import HandS.DictComp
import HandS.WideBits
import HandS.TryOnly
import HandS.Deep
import HandS.More
import HandS.WordsExc
import HandS.ExcField
import KE.KExcIs
import KE.KExcSuper
import HandS.ExcInit
import KE.KExcLine
import HandS.SetFor
import PySem.Challenge.RW_strikecore_k15_steps_down
set_option Elab.async false
set_option linter.all false
set_option maxRecDepth 100000
set_option maxHeartbeats 2000000
/-! Mi: a mirror of a def, computed: values, heap, worlds. -/
namespace Mi
open PySem L2
/-! ### the mirror's data -/
inductive MV where
  | non | bl (b : Bool) | int (i : Int) | str (x : Str) | tup (xs : List MV) | ktp (xs : List MV) | fls (xs : List MV) | frz (xs : List MV) | ref (l : Nat) | exc (a : Addr) (d : Option Addr) (fns : List Str) (xs : List MV)
inductive MO where
  | dead | lst (xs : List MV) | dK (kvs : List (Key × MV))
abbrev MH := List MO
abbrev MS := List (Option MV)
structure MX where
  cls : Str
  flds : List (Str × MV)
inductive Out (α : Type) where
  | ok (a : α) (h : MH) | ex (e : MX) (h : MH)
abbrev Res (α : Type) := Option (Out α)
abbrev MM (α : Type) := MS → MH → Res α
abbrev ME := MM MV
@[simp ↓] def Res.bnd {α β : Type} (r : Res α) (k : α → MH → Res β) : Res β := match r with
  | none => none
  | some (.ok a h) => k a h
  | some (.ex e h) => some (.ex e h)
inductive OutS where
  | nx (s : MS) (h : MH) | ret (x : MV) (h : MH) | brk (s : MS) (h : MH) | cnt (s : MS) (h : MH) | ex (e : MX) (h : MH)
abbrev MT := MS → MH → Option OutS
/-! ### worlds: which address bears which place of the mirror's heap -/
abbrev Phi := Nat → Option Addr
structure Wd where
  f : Phi
  n : Nat
  H : Hp
  hid : Addr → Prop
/-- nothing of the mirror writes there -/
def Stab (W : Wd) (p : Addr) : Prop := (∀ l, W.f l ≠ some p) ∧ ¬ W.hid p
mutual
inductive RV (K : PySem.W.Frag) (W : Wd) : MV → V → Prop
  | non : RV K W .non .non
  | bl (b : Bool) : RV K W (.bl b) (.bl b)
  | int (i : Int) : RV K W (.int i) (.int i)
  | str (x : Str) : RV K W (.str x) (.str x)
  | ref {l : Nat} {a : Addr} (lt : l < W.n) (e : ∀ b, W.f l = some b → b = a) : RV K W (.ref l) (.ref a)
  | tup {p : Addr} {xs : List MV} {vs : List V} (s : Stab W p) (e : W.H p = some (.tup vs)) (r : RVs K W xs vs) : RV K W (.tup xs) (.ref p)
  | tupK {p : Addr} {xs : List MV} {vs : List V} (e : ∀ H, SqT K H p vs) (r : RVs K W xs vs) : RV K W (.ktp xs) (.ref p)
  | fls {p : Addr} {xs : List MV} {vs : List V} (s : Stab W p) (e : W.H p = some (.lst vs)) (r : RVs K W xs vs) : RV K W (.fls xs) (.ref p)
  | frz {p : Addr} {xs : List MV} {vs : List V} (s : Stab W p) (e : Rd W.H p (.lst vs)) (r : RVs K W xs vs) : RV K W (.frz xs) (.ref p)
  | frzK {p : Addr} {xs : List MV} {vs : List V} (e : ∀ H, SqL K H p vs) (r : RVs K W xs vs) : RV K W (.frz xs) (.ref p)
  | exc0 {a : Addr} {fns : List Str} : RV K W (.exc a none fns []) (.ref a)
  | excD {a p : Addr} {fns : List Str} {xs : List MV} {vs : List V} (s : Stab W p) (e : W.H p = some (.xd (fns.zip vs))) (r : RVs K W xs vs) : RV K W (.exc a (some p) fns xs) (.ref a)
inductive RVs (K : PySem.W.Frag) (W : Wd) : List MV → List V → Prop
  | nil : RVs K W [] []
  | cons {x : MV} {v : V} {xs : List MV} {vs : List V} (r : RV K W x v) (t : RVs K W xs vs) : RVs K W (x :: xs) (v :: vs)
end
inductive RKV (K : PySem.W.Frag) (W : Wd) {κ : Type} : List (κ × MV) → List (κ × V) → Prop
  | nil : RKV K W [] []
  | cons {k : κ} {x : MV} {v : V} {xs : List (κ × MV)} {vs : List (κ × V)} (r : RV K W x v) (t : RKV K W xs vs) : RKV K W ((k, x) :: xs) ((k, v) :: vs)
def RO (K : PySem.W.Frag) (W : Wd) : MO → Addr → Prop
  | .dead, _ => False
  | .lst xs, a => ∃ vs, W.H a = some (.lst vs) ∧ RVs K W xs vs
  | .dK kvs, a => ∃ kws, W.H a = some (.dK kws) ∧ RKV K W kvs kws
structure Sim (K : PySem.W.Frag) (W : Wd) (h : MH) : Prop where
  n : W.n = h.length
  lt : ∀ l a, W.f l = some a → l < h.length
  inj : ∀ i j a, W.f i = some a → W.f j = some a → i = j
  obj : ∀ l a, W.f l = some a → ∃ o, h[l]? = some o ∧ RO K W o a
  live : ∀ l o, h[l]? = some o → o ≠ .dead → ∃ a, W.f l = some a
  nhid : ∀ l a, W.f l = some a → ¬ W.hid a
  hids : ∀ p, W.hid p → W.H p ≠ none
structure Ext (W W' : Wd) : Prop where
  le : W.n ≤ W'.n
  agree : ∀ l, l < W.n → W'.f l = W.f l ∨ W'.f l = none
  frame : ∀ p o, Stab W p → W.H p = some o → W'.H p = some o ∧ Stab W' p
  hidf : ∀ p o, W.hid p → W.H p = some o → W'.H p = some o ∧ W'.hid p
theorem Ext.refl (W : Wd) : Ext W W := ⟨Nat.le_refl _, fun _ _ => .inl rfl, fun _ _ s e => ⟨e, s⟩, fun _ _ s e => ⟨e, s⟩⟩
theorem Ext.trans {W W1 W2 : Wd} (a : Ext W W1) (b : Ext W1 W2) : Ext W W2 where
  le := Nat.le_trans a.le b.le
  agree := fun l hl => by
    rcases b.agree l (Nat.lt_of_lt_of_le hl a.le) with e | e
    · rw [e]
      exact a.agree l hl
    · exact .inr e
  frame := fun p o s e => by
    obtain ⟨e1, s1⟩ := a.frame p o s e
    exact b.frame p o s1 e1
  hidf := fun p o s e => by
    obtain ⟨e1, s1⟩ := a.hidf p o s e
    exact b.hidf p o s1 e1
theorem Ext.rd {W W' : Wd} (x : Ext W W') {p : Addr} {o : HO} (s : Stab W p) (e : Rd W.H p o) : Rd W'.H p o ∧ Stab W' p := by
  rcases e with e | ⟨u, e⟩
  · exact ⟨.inl (x.frame p _ s e).1, (x.frame p _ s e).2⟩
  · exact ⟨.inr ⟨u, (x.frame p _ s e).1⟩, (x.frame p _ s e).2⟩
section
variable {K : PySem.W.Frag} {W W' : Wd}
mutual
theorem RV.mono (x : Ext W W') : ∀ {m : MV} {v : V}, RV K W m v → RV K W' m v
  | _, _, .non => .non
  | _, _, .bl b => .bl b
  | _, _, .int i => .int i
  | _, _, .str s => .str s
  | _, _, .ref lt e => .ref (Nat.lt_of_lt_of_le lt x.le) fun b hb => by
    rcases x.agree _ lt with q | q
    · exact e b (q ▸ hb)
    · rw [q] at hb
      cases hb
  | _, _, .tup s e r => .tup (x.frame _ _ s e).2 (x.frame _ _ s e).1 (RVs.mono x r)
  | _, _, .tupK e r => .tupK e (RVs.mono x r)
  | _, _, .fls s e r => .fls (x.frame _ _ s e).2 (x.frame _ _ s e).1 (RVs.mono x r)
  | _, _, .frz s e r => .frz (x.rd s e).2 (x.rd s e).1 (RVs.mono x r)
  | _, _, .frzK e r => .frzK e (RVs.mono x r)
  | _, _, .exc0 => .exc0
  | _, _, .excD s e r => .excD (x.frame _ _ s e).2 (x.frame _ _ s e).1 (RVs.mono x r)
theorem RVs.mono (x : Ext W W') : ∀ {ms : List MV} {vs : List V}, RVs K W ms vs → RVs K W' ms vs
  | _, _, .nil => .nil
  | _, _, .cons r t => .cons (RV.mono x r) (RVs.mono x t)
end
theorem RKV.mono {κ : Type} (x : Ext W W') : ∀ {ms : List (κ × MV)} {vs : List (κ × V)}, RKV K W ms vs → RKV K W' ms vs
  | _, _, .nil => .nil
  | _, _, .cons r t => .cons (r.mono x) (RKV.mono x t)
theorem RVs.length : ∀ {xs : List MV} {vs : List V}, RVs K W xs vs → xs.length = vs.length
  | _, _, .nil => rfl
  | _, _, .cons _ t => by rw [List.length_cons, List.length_cons, RVs.length t]
theorem RVs.get : ∀ {xs : List MV} {vs : List V} {i : Nat} {x : MV}, RVs K W xs vs → xs[i]? = some x → ∃ v, vs[i]? = some v ∧ RV K W x v
  | _, _, _, _, .nil, e => by simp at e
  | _, _, 0, _, .cons r _, e => by
    simp at e
    subst e
    exact ⟨_, rfl, r⟩
  | _, _, i + 1, _, .cons _ t, e => by
    obtain ⟨v, a, b⟩ := RVs.get (i := i) t (by simpa using e)
    exact ⟨v, by simpa using a, b⟩
theorem RVs.append : ∀ {xs ys : List MV} {vs ws : List V}, RVs K W xs vs → RVs K W ys ws → RVs K W (xs ++ ys) (vs ++ ws)
  | _, _, _, _, .nil, s => s
  | _, _, _, _, .cons r t, s => .cons r (RVs.append t s)
theorem RVs.one {x : MV} {v : V} (r : RV K W x v) : RVs K W [x] [v] := .cons r .nil
theorem RVs.take : ∀ {xs : List MV} {vs : List V} (n : Nat), RVs K W xs vs → RVs K W (xs.take n) (vs.take n)
  | _, _, 0, _ => .nil
  | _, _, _ + 1, .nil => .nil
  | _, _, n + 1, .cons r t => .cons r (RVs.take n t)
theorem RVs.drop : ∀ {xs : List MV} {vs : List V} (n : Nat), RVs K W xs vs → RVs K W (xs.drop n) (vs.drop n)
  | _, _, 0, r => r
  | _, _, _ + 1, .nil => .nil
  | _, _, n + 1, .cons _ t => RVs.drop n t
theorem RVs.set {x : MV} {v : V} (r : RV K W x v) : ∀ {xs : List MV} {vs : List V} (i : Nat), RVs K W xs vs → RVs K W (xs.set i x) (vs.set i v)
  | _, _, _, .nil => .nil
  | _, _, 0, .cons _ t => .cons r t
  | _, _, i + 1, .cons q t => .cons q (RVs.set r i t)
theorem RVs.eraseIdx : ∀ {xs : List MV} {vs : List V} (i : Nat), RVs K W xs vs → RVs K W (xs.eraseIdx i) (vs.eraseIdx i)
  | _, _, _, .nil => .nil
  | _, _, 0, .cons _ t => t
  | _, _, i + 1, .cons q t => .cons q (RVs.eraseIdx i t)
theorem RVs.reverse : ∀ {xs : List MV} {vs : List V}, RVs K W xs vs → RVs K W xs.reverse vs.reverse
  | _, _, .nil => .nil
  | _, _, .cons r t => by
    rw [List.reverse_cons, List.reverse_cons]
    exact (RVs.reverse t).append (.one r)
theorem RVs.nil_iff {xs : List MV} {vs : List V} (r : RVs K W xs vs) : xs.isEmpty = vs.isEmpty := by
  cases r <;> rfl
theorem RO.mono {o : MO} {a : Addr} (x : Ext W W') (r : RO K W o a) (e : W'.H a = W.H a) : RO K W' o a := by
  cases o with
  | dead => exact r
  | lst xs =>
    obtain ⟨vs, q, t⟩ := r
    exact ⟨vs, e.trans q, t.mono x⟩
  | dK kvs =>
    obtain ⟨vs, q, t⟩ := r
    exact ⟨vs, e.trans q, t.mono x⟩
theorem RO.has {o : MO} {a : Addr} (r : RO K W o a) : ∃ u, W.H a = some u := by
  cases o with
  | dead => exact r.elim
  | lst xs =>
    obtain ⟨vs, q, _⟩ := r
    exact ⟨_, q⟩
  | dK kvs =>
    obtain ⟨vs, q, _⟩ := r
    exact ⟨_, q⟩
theorem Sim.has {h : MH} (S : Sim K W h) {l : Nat} {a : Addr} (e : W.f l = some a) : ∃ u, W.H a = some u := by
  obtain ⟨o, _, r⟩ := S.obj l a e
  exact r.has
theorem Sim.fresh {h : MH} (S : Sim K W h) {p : Addr} (hp : W.H p = none) : Stab W p := ⟨fun l e => (by
  obtain ⟨u, q⟩ := S.has e
  rw [hp] at q
  cases q), fun hh => S.hids p hh hp⟩
/-! ### how a world grows -/
/-- something that the mirror's heap does not bear is laid at p -/
def Wd.put (W : Wd) (p : Addr) (o : HO) : Wd := ⟨W.f, W.n, upd W.H p o, W.hid⟩
theorem Ext.put {h : MH} (S : Sim K W h) {p : Addr} {o : HO} (hp : W.H p = none) : Ext W (W.put p o) := ⟨Nat.le_refl _, fun _ _ => .inl rfl, fun q u s e => ⟨by
  show upd W.H p o q = some u
  rw [upd_ne (ne_of_none e hp)]
  exact e, s⟩, fun q u s e => ⟨by
  show upd W.H p o q = some u
  rw [upd_ne (ne_of_none e hp)]
  exact e, s⟩⟩
theorem Sim.put {h : MH} (S : Sim K W h) {p : Addr} {o : HO} (hp : W.H p = none) : Sim K (W.put p o) h where
  n := S.n
  lt := S.lt
  inj := S.inj
  obj := fun l a e => by
    obtain ⟨u, e1, r⟩ := S.obj l a e
    refine ⟨u, e1, r.mono (Ext.put S hp) ?_⟩
    show upd W.H p o a = W.H a
    obtain ⟨u2, q⟩ := r.has
    rw [upd_ne (ne_of_none q hp)]
  live := S.live
  nhid := S.nhid
  hids := fun q hq e => by
    have e' : upd W.H p o q = none := e
    by_cases hz : q = p
    · rw [hz, upd_same] at e'
      cases e'
    · rw [upd_ne hz] at e'
      exact S.hids q hq e'
/-- a new object of the mirror's heap -/
def Wd.add (W : Wd) (p : Addr) (o : HO) : Wd := ⟨fun l => if l = W.n then some p else W.f l, W.n + 1, upd W.H p o, W.hid⟩
theorem Ext.add {h : MH} (S : Sim K W h) {p : Addr} {o : HO} (hp : W.H p = none) : Ext W (W.add p o) where
  le := Nat.le_succ _
  agree := fun l hl => .inl (if_neg (Nat.ne_of_lt hl))
  frame := fun q u s e => by
    have hq : q ≠ p := ne_of_none e hp
    refine ⟨?_, fun l z => ?_, s.2⟩
    · show upd W.H p o q = some u
      rw [upd_ne hq]
      exact e
    · have z' : (if l = W.n then some p else W.f l) = some q := z
      by_cases hl : l = W.n
      · rw [if_pos hl] at z'
        exact hq (Option.some.inj z').symm
      · rw [if_neg hl] at z'
        exact s.1 l z'
  hidf := fun q u s e => ⟨by
    show upd W.H p o q = some u
    rw [upd_ne (ne_of_none e hp)]
    exact e, s⟩
theorem Sim.add {h : MH} {m : MO} (S : Sim K W h) {p : Addr} {o : HO} (hp : W.H p = none) (hr : RO K (W.add p o) m p) : Sim K (W.add p o) (h ++ [m]) where
  n := by
    show W.n + 1 = _
    rw [List.length_append, S.n]
    rfl
  lt := fun l a e => by
    have e' : (if l = W.n then some p else W.f l) = some a := e
    rw [List.length_append]
    show l < h.length + 1
    by_cases hl : l = W.n
    · rw [hl, S.n]
      exact Nat.lt_succ_self _
    · rw [if_neg hl] at e'
      exact Nat.lt_succ_of_lt (S.lt l a e')
  inj := fun i j a ei ej => by
    have ei' : (if i = W.n then some p else W.f i) = some a := ei
    have ej' : (if j = W.n then some p else W.f j) = some a := ej
    have no : ∀ k, W.f k = some p → False := fun k e => (S.fresh hp).1 k e
    by_cases hi : i = W.n
    · by_cases hj : j = W.n
      · rw [hi, hj]
      · rw [if_pos hi] at ei'
        rw [if_neg hj, ← ei'] at ej'
        exact (no j ej').elim
    · rw [if_neg hi] at ei'
      by_cases hj : j = W.n
      · rw [if_pos hj] at ej'
        rw [← ej'] at ei'
        exact (no i ei').elim
      · rw [if_neg hj] at ej'
        exact S.inj i j a ei' ej'
  obj := fun l a e => by
    have e' : (if l = W.n then some p else W.f l) = some a := e
    by_cases hl : l = W.n
    · rw [if_pos hl] at e'
      cases e'
      exact ⟨m, by rw [hl, S.n]; simp, hr⟩
    · rw [if_neg hl] at e'
      obtain ⟨u, e1, r⟩ := S.obj l a e'
      refine ⟨u, by rw [List.getElem?_append_left (S.lt l a e')]; exact e1, r.mono (Ext.add S hp) ?_⟩
      obtain ⟨u2, q⟩ := r.has
      show upd W.H p o a = W.H a
      rw [upd_ne (ne_of_none q hp)]
  live := fun l u e d => by
    by_cases hl : l = W.n
    · exact ⟨p, if_pos hl⟩
    · have hlt : l < h.length := by
        have := (List.getElem?_eq_some_iff.mp e).1
        rw [List.length_append] at this
        have t : l < h.length + 1 := this
        have := S.n
        omega
      rw [List.getElem?_append_left hlt] at e
      obtain ⟨a, ea⟩ := S.live l u e d
      exact ⟨a, (if_neg hl).trans ea⟩
  nhid := fun l a e => by
    have e' : (if l = W.n then some p else W.f l) = some a := e
    by_cases hl : l = W.n
    · rw [if_pos hl] at e'
      cases e'
      exact (S.fresh hp).2
    · rw [if_neg hl] at e'
      exact S.nhid l a e'
  hids := fun q hq e => by
    have e' : upd W.H p o q = none := e
    by_cases hz : q = p
    · rw [hz, upd_same] at e'
      cases e'
    · rw [upd_ne hz] at e'
      exact S.hids q hq e'
/-- an object of the mirror's heap is written -/
def Wd.wr (W : Wd) (p : Addr) (o : HO) : Wd := ⟨W.f, W.n, upd W.H p o, W.hid⟩
theorem Ext.wr {h : MH} (S : Sim K W h) {l : Nat} {p : Addr} {o : HO} (e : W.f l = some p) : Ext W (W.wr p o) := ⟨Nat.le_refl _, fun _ _ => .inl rfl, fun q u s eq => ⟨by
  show upd W.H p o q = some u
  rw [upd_ne (fun z => s.1 l (by rw [z]; exact e))]
  exact eq, s⟩, fun q u s eq => ⟨by
  show upd W.H p o q = some u
  rw [upd_ne (fun z => S.nhid l p e (by rw [← z]; exact s))]
  exact eq, s⟩⟩
theorem Sim.wr {h : MH} {m : MO} (S : Sim K W h) {l : Nat} {p : Addr} {o : HO} (e : W.f l = some p) (hr : RO K (W.wr p o) m p) : Sim K (W.wr p o) (h.set l m) where
  n := by
    rw [List.length_set]
    exact S.n
  lt := fun j a ej => by
    rw [List.length_set]
    exact S.lt j a ej
  inj := S.inj
  obj := fun j a ej => by
    have hl := S.lt l p e
    by_cases hj : j = l
    · subst hj
      have ej' : W.f j = some a := ej
      rw [e] at ej'
      cases ej'
      exact ⟨m, List.getElem?_set_self hl, hr⟩
    · obtain ⟨u, e1, r⟩ := S.obj j a ej
      refine ⟨u, by rw [List.getElem?_set_ne (Ne.symm hj)]; exact e1, r.mono (Ext.wr S e) ?_⟩
      show upd W.H p o a = W.H a
      rw [upd_ne fun z => hj (S.inj j l p (by rw [← z]; exact ej) e)]
  live := fun j u ej d => by
    by_cases hj : j = l
    · exact ⟨p, by rw [hj]; exact e⟩
    · rw [List.getElem?_set_ne (Ne.symm hj)] at ej
      exact S.live j u ej d
  nhid := S.nhid
  hids := fun q hq e => by
    have e' : upd W.H p o q = none := e
    by_cases hz : q = p
    · rw [hz, upd_same] at e'
      cases e'
    · rw [upd_ne hz] at e'
      exact S.hids q hq e'
/-- an object is given up: from now on it stands still -/
def Wd.kill (W : Wd) (l : Nat) : Wd := ⟨fun j => if j = l then none else W.f j, W.n, W.H, W.hid⟩
theorem Wd.kill_some {l j : Nat} {a : Addr} (e : (W.kill l).f j = some a) : j ≠ l ∧ W.f j = some a := by
  have e' : (if j = l then none else W.f j) = some a := e
  by_cases hj : j = l
  · rw [if_pos hj] at e'
    cases e'
  · rw [if_neg hj] at e'
    exact ⟨hj, e'⟩
theorem Ext.kill (W : Wd) (l : Nat) : Ext W (W.kill l) := ⟨Nat.le_refl _, fun j _ => by
  by_cases hj : j = l
  · exact .inr (if_pos hj)
  · exact .inl (if_neg hj), fun q u s eq => ⟨eq, fun j z => s.1 j (Wd.kill_some z).2, s.2⟩, fun q u s eq => ⟨eq, s⟩⟩
theorem Sim.kill {h : MH} (S : Sim K W h) (l : Nat) : Sim K (W.kill l) (h.set l .dead) where
  n := by
    rw [List.length_set]
    exact S.n
  lt := fun j a ej => by
    rw [List.length_set]
    exact S.lt j a (Wd.kill_some ej).2
  inj := fun i j a ei ej => S.inj i j a (Wd.kill_some ei).2 (Wd.kill_some ej).2
  obj := fun j a ej => by
    obtain ⟨hj, e1⟩ := Wd.kill_some ej
    obtain ⟨u, e2, r⟩ := S.obj j a e1
    exact ⟨u, by rw [List.getElem?_set_ne (Ne.symm hj)]; exact e2, r.mono (Ext.kill W l) rfl⟩
  live := fun j u ej d => by
    by_cases hj : j = l
    · subst hj
      have hlt : j < h.length := by
        have := (List.getElem?_eq_some_iff.mp ej).1
        rw [List.length_set] at this
        exact this
      rw [List.getElem?_set_self hlt] at ej
      exact absurd (Option.some.inj ej).symm d
    · rw [List.getElem?_set_ne (Ne.symm hj)] at ej
      obtain ⟨a, ea⟩ := S.live j u ej d
      exact ⟨a, (if_neg hj).trans ea⟩
  nhid := fun j a ej => S.nhid j a (Wd.kill_some ej).2
  hids := S.hids
/-- a list that is being made: nobody sees it -/
def Wd.hide (W : Wd) (p : Addr) (o : HO) : Wd := ⟨W.f, W.n, upd W.H p o, fun q => q = p ∨ W.hid q⟩
theorem Ext.hide {h : MH} (S : Sim K W h) {p : Addr} {o : HO} (hp : W.H p = none) : Ext W (W.hide p o) := ⟨Nat.le_refl _, fun _ _ => .inl rfl, fun q u s e => ⟨by
  show upd W.H p o q = some u
  rw [upd_ne (ne_of_none e hp)]
  exact e, s.1, fun z => z.elim (fun y => ne_of_none e hp y) s.2⟩, fun q u s e => ⟨by
  show upd W.H p o q = some u
  rw [upd_ne (ne_of_none e hp)]
  exact e, .inr s⟩⟩
theorem Sim.hide {h : MH} (S : Sim K W h) {p : Addr} {o : HO} (hp : W.H p = none) : Sim K (W.hide p o) h where
  n := S.n
  lt := S.lt
  inj := S.inj
  obj := fun l a e => by
    obtain ⟨u, e1, r⟩ := S.obj l a e
    refine ⟨u, e1, r.mono (Ext.hide S hp) ?_⟩
    show upd W.H p o a = W.H a
    obtain ⟨u2, q⟩ := r.has
    rw [upd_ne (ne_of_none q hp)]
  live := S.live
  nhid := fun l a e z => z.elim (fun y => (S.fresh hp).1 l (by rw [← y]; exact e)) (S.nhid l a e)
  hids := fun q hq e => by
    have e' : upd W.H p o q = none := e
    by_cases hz : q = p
    · rw [hz, upd_same] at e'
      cases e'
    · rw [upd_ne hz] at e'
      exact S.hids q (hq.elim (fun y => absurd y hz) id) e'
/-- it is written -/
theorem Ext.wrh {h : MH} {p : Addr} {o : HO} (hp : W.hid p) (S : Sim K W h) {W0 : Wd} (x : Ext W0 W) (h0 : W0.H p = none) : Ext W0 (W.wr p o) := ⟨x.le, x.agree, fun q u s e => ⟨by
  show upd W.H p o q = some u
  rw [upd_ne (ne_of_none e h0)]
  exact (x.frame q u s e).1, (x.frame q u s e).2⟩, fun q u s e => ⟨by
  show upd W.H p o q = some u
  rw [upd_ne (ne_of_none e h0)]
  exact (x.hidf q u s e).1, (x.hidf q u s e).2⟩⟩
theorem rd_wrh {p q : Addr} {o u : HO} (hp : W.hid p) (s : Stab W q) (e : Rd W.H q u) : Rd (W.wr p o).H q u := by
  have ne : q ≠ p := fun z => s.2 (by rw [z]; exact hp)
  rcases e with e | ⟨z, e⟩
  · exact .inl ((upd_ne ne).trans e)
  · exact .inr ⟨z, (upd_ne ne).trans e⟩
mutual
/-- what nobody sees may change -/
theorem RV.wrh {p : Addr} {o : HO} (hp : W.hid p) : ∀ {m : MV} {v : V}, RV K W m v → RV K (W.wr p o) m v
  | _, _, .non => .non
  | _, _, .bl b => .bl b
  | _, _, .int i => .int i
  | _, _, .str s => .str s
  | _, _, .ref lt e => .ref lt e
  | _, _, .tup s e r => .tup s ((upd_ne fun z => s.2 (by rw [z]; exact hp)).trans e) (RVs.wrh hp r)
  | _, _, .tupK e r => .tupK e (RVs.wrh hp r)
  | _, _, .fls s e r => .fls s ((upd_ne fun z => s.2 (by rw [z]; exact hp)).trans e) (RVs.wrh hp r)
  | _, _, .frz s e r => .frz s (rd_wrh hp s e) (RVs.wrh hp r)
  | _, _, .frzK e r => .frzK e (RVs.wrh hp r)
  | _, _, .exc0 => .exc0
  | _, _, .excD s e r => .excD s ((upd_ne fun z => s.2 (by rw [z]; exact hp)).trans e) (RVs.wrh hp r)
theorem RVs.wrh {p : Addr} {o : HO} (hp : W.hid p) : ∀ {ms : List MV} {vs : List V}, RVs K W ms vs → RVs K (W.wr p o) ms vs
  | _, _, .nil => .nil
  | _, _, .cons r t => .cons (RV.wrh hp r) (RVs.wrh hp t)
end
theorem RKV.wrh {κ : Type} {p : Addr} {o : HO} (hp : W.hid p) : ∀ {ms : List (κ × MV)} {vs : List (κ × V)}, RKV K W ms vs → RKV K (W.wr p o) ms vs
  | _, _, .nil => .nil
  | _, _, .cons r t => .cons (r.wrh hp) (RKV.wrh hp t)
theorem Sim.wrh {h : MH} {p : Addr} {o : HO} (hp : W.hid p) (S : Sim K W h) : Sim K (W.wr p o) h where
  n := S.n
  lt := S.lt
  inj := S.inj
  obj := fun l a e => by
    obtain ⟨u, e1, r⟩ := S.obj l a e
    have ne : a ≠ p := fun z => S.nhid l a e (by rw [z]; exact hp)
    have hH : (W.wr p o).H a = W.H a := upd_ne ne
    refine ⟨u, e1, ?_⟩
    cases u with
    | dead => exact r.elim
    | lst xs =>
      obtain ⟨vs, q, t⟩ := r
      exact ⟨vs, hH.trans q, t.wrh hp⟩
    | dK xs =>
      obtain ⟨vs, q, t⟩ := r
      exact ⟨vs, hH.trans q, t.wrh hp⟩
  live := S.live
  nhid := S.nhid
  hids := fun q hq e => by
    have e' : upd W.H p o q = none := e
    by_cases hz : q = p
    · rw [hz, upd_same] at e'
      cases e'
    · rw [upd_ne hz] at e'
      exact S.hids q hq e'
/-- it is shown: the world without it, into which it is laid -/
def Wd.bare (W : Wd) (p : Addr) : Wd := ⟨W.f, W.n, fun b => if b = p then none else W.H b, fun q => q ≠ p ∧ W.hid q⟩
theorem Wd.bare_upd {p : Addr} {o : HO} (e : W.H p = some o) : upd (W.bare p).H p o = W.H := by
  funext b
  by_cases hb : b = p
  · rw [hb, upd_same, e]
  · rw [upd_ne hb]
    exact if_neg hb
theorem Wd.bare_ne {p q : Addr} (h : q ≠ p) : (W.bare p).H q = W.H q := if_neg h
theorem rd_bare {p q : Addr} {u : HO} (h : q ≠ p) (e : Rd W.H q u) : Rd (W.bare p).H q u := by
  rcases e with e | ⟨z, e⟩
  · exact .inl ((Wd.bare_ne h).trans e)
  · exact .inr ⟨z, (Wd.bare_ne h).trans e⟩
mutual
theorem RV.bare {p : Addr} (hp : W.hid p) : ∀ {m : MV} {v : V}, RV K W m v → RV K (W.bare p) m v
  | _, _, .non => .non
  | _, _, .bl b => .bl b
  | _, _, .int i => .int i
  | _, _, .str s => .str s
  | _, _, .ref lt e => .ref lt e
  | _, _, .tup s e r => .tup ⟨s.1, fun z => s.2 z.2⟩ ((Wd.bare_ne fun z => s.2 (by rw [z]; exact hp)).trans e) (RVs.bare hp r)
  | _, _, .tupK e r => .tupK e (RVs.bare hp r)
  | _, _, .fls s e r => .fls ⟨s.1, fun z => s.2 z.2⟩ ((Wd.bare_ne fun z => s.2 (by rw [z]; exact hp)).trans e) (RVs.bare hp r)
  | _, _, .frz s e r => .frz ⟨s.1, fun z => s.2 z.2⟩ (rd_bare (fun z => s.2 (by rw [z]; exact hp)) e) (RVs.bare hp r)
  | _, _, .frzK e r => .frzK e (RVs.bare hp r)
  | _, _, .exc0 => .exc0
  | _, _, .excD s e r => .excD ⟨s.1, fun z => s.2 z.2⟩ ((Wd.bare_ne fun z => s.2 (by rw [z]; exact hp)).trans e) (RVs.bare hp r)
theorem RVs.bare {p : Addr} (hp : W.hid p) : ∀ {ms : List MV} {vs : List V}, RVs K W ms vs → RVs K (W.bare p) ms vs
  | _, _, .nil => .nil
  | _, _, .cons r t => .cons (RV.bare hp r) (RVs.bare hp t)
end
theorem RKV.bare {κ : Type} {p : Addr} (hp : W.hid p) : ∀ {ms : List (κ × MV)} {vs : List (κ × V)}, RKV K W ms vs → RKV K (W.bare p) ms vs
  | _, _, .nil => .nil
  | _, _, .cons r t => .cons (r.bare hp) (RKV.bare hp t)
theorem Sim.bare {h : MH} {p : Addr} (hp : W.hid p) (S : Sim K W h) : Sim K (W.bare p) h where
  n := S.n
  lt := S.lt
  inj := S.inj
  obj := fun l a e => by
    obtain ⟨u, e1, r⟩ := S.obj l a e
    have ne : a ≠ p := fun z => S.nhid l a e (by rw [z]; exact hp)
    have hH : (W.bare p).H a = W.H a := Wd.bare_ne ne
    refine ⟨u, e1, ?_⟩
    cases u with
    | dead => exact r.elim
    | lst xs =>
      obtain ⟨vs, q, t⟩ := r
      exact ⟨vs, hH.trans q, t.bare hp⟩
    | dK xs =>
      obtain ⟨vs, q, t⟩ := r
      exact ⟨vs, hH.trans q, t.bare hp⟩
  live := S.live
  nhid := fun l a e z => S.nhid l a e z.2
  hids := fun q hq e => by
    rw [Wd.bare_ne hq.1] at e
    exact S.hids q hq.2 e
theorem Ext.bare {p : Addr} {W0 : Wd} (x : Ext W0 W) (h0 : W0.H p = none) : Ext W0 (W.bare p) := ⟨x.le, x.agree, fun q u s e => by
  have hq : q ≠ p := ne_of_none e h0
  obtain ⟨a, b⟩ := x.frame q u s e
  exact ⟨(Wd.bare_ne hq).trans a, b.1, fun z => b.2 z.2⟩, fun q u s e => by
  have hq : q ≠ p := ne_of_none e h0
  obtain ⟨a, b⟩ := x.hidf q u s e
  exact ⟨(Wd.bare_ne hq).trans a, hq, b⟩⟩
/-- where a place of the mirror's heap stands -/
theorem Sim.at {h : MH} (S : Sim K W h) {l : Nat} {o : MO} {v : V} (e : h[l]? = some o) (d : o ≠ .dead) (r : RV K W (.ref l) v) : ∃ a, v = .ref a ∧ W.f l = some a ∧ RO K W o a := by
  obtain ⟨a, ea⟩ := S.live l o e d
  obtain ⟨u, e1, ro⟩ := S.obj l a ea
  rw [e] at e1
  cases e1
  cases r with
  | ref lt q => exact ⟨a, by rw [q a ea], ea, ro⟩
theorem Sim.lstAt {h : MH} (S : Sim K W h) {l : Nat} {xs : List MV} {v : V} (e : h[l]? = some (.lst xs)) (r : RV K W (.ref l) v) : ∃ a vs, v = .ref a ∧ W.f l = some a ∧ W.H a = some (.lst vs) ∧ RVs K W xs vs := by
  obtain ⟨a, e1, e2, vs, e3, r3⟩ := S.at e (by intro z; cases z) r
  exact ⟨a, vs, e1, e2, e3, r3⟩
end
/-! ### slots -/
inductive RS (K : PySem.W.Frag) (W : Wd) : MS → St → Prop
  | nil : RS K W [] []
  | no {o : Option V} {a : MS} {b : St} (t : RS K W a b) : RS K W (none :: a) (o :: b)
  | yes {x : MV} {v : V} {a : MS} {b : St} (r : RV K W x v) (t : RS K W a b) : RS K W (some x :: a) (some v :: b)
section
variable {K : PySem.W.Frag} {W W' : Wd}
theorem RS.mono (x : Ext W W') : ∀ {a : MS} {b : St}, RS K W a b → RS K W' a b
  | _, _, .nil => .nil
  | _, _, .no t => .no (RS.mono x t)
  | _, _, .yes r t => .yes (r.mono x) (RS.mono x t)
theorem RS.get : ∀ {a : MS} {b : St} {i : Nat} {x : MV}, RS K W a b → a[i]? = some (some x) → ∃ v, b[i]? = some (some v) ∧ RV K W x v
  | _, _, _, _, .nil, e => by simp at e
  | _, _, 0, _, .no _, e => by simp at e
  | _, _, 0, _, .yes r _, e => by
    simp at e
    subst e
    exact ⟨_, rfl, r⟩
  | _, _, i + 1, _, .no t, e => by
    obtain ⟨v, p, q⟩ := RS.get (i := i) t (by simpa using e)
    exact ⟨v, by simpa using p, q⟩
  | _, _, i + 1, _, .yes _ t, e => by
    obtain ⟨v, p, q⟩ := RS.get (i := i) t (by simpa using e)
    exact ⟨v, by simpa using p, q⟩
theorem RS.set {x : MV} {v : V} (r : RV K W x v) : ∀ {a : MS} {b : St} (i : Nat), RS K W a b → RS K W (a.set i (some x)) (b.set i (some v))
  | _, _, _, .nil => .nil
  | _, _, 0, .no t => .yes r t
  | _, _, 0, .yes _ t => .yes r t
  | _, _, i + 1, .no t => .no (RS.set r i t)
  | _, _, i + 1, .yes q t => .yes q (RS.set r i t)
theorem RS.clr : ∀ {a : MS} {b : St} (i : Nat) (o : Option V), RS K W a b → RS K W (a.set i none) (b.set i o)
  | _, _, _, _, .nil => .nil
  | _, _, 0, _, .no t => .no t
  | _, _, 0, _, .yes _ t => .no t
  | _, _, i + 1, o, .no t => .no (RS.clr i o t)
  | _, _, i + 1, o, .yes q t => .yes q (RS.clr i o t)
def wipeM (s : MS) : List Nat → MS
  | [] => s
  | v :: vs => (wipeM s vs).set v none
theorem RS.wipe {a : MS} {b : St} (t : RS K W a b) : ∀ vs : List Nat, RS K W (wipeM a vs) (L2.wipe b vs)
  | [] => t
  | v :: vs => (RS.wipe t vs).clr v none
theorem RS.start : ∀ {xs : List MV} {vs : List V}, RVs K W xs vs → ∀ k, RS K W (xs.map some ++ List.replicate k none) (vs.map some ++ List.replicate k none)
  | _, _, .nil, 0 => .nil
  | _, _, .nil, k + 1 => .no (RS.start .nil k)
  | _, _, .cons r t, k => .yes r (RS.start t k)
end
end Mi
set_option maxHeartbeats 2000000
/-! Mi: what a reading owes to a mirror; expressions. -/
namespace Mi
open PySem L2
/-- where exceptions go: the class names' values, the wish -/
structure XC where
  mg : Str → Option Value
  E : XK
inductive RF (K : PySem.W.Frag) (W : Wd) : List (Str × MV) → List (Str × V) → Prop
  | nil : RF K W [] []
  | cons {f : Str} {x : MV} {v : V} {xs : List (Str × MV)} {vs : List (Str × V)} (r : RV K W x v) (t : RF K W xs vs) : RF K W ((f, x) :: xs) ((f, v) :: vs)
def XR (K : PySem.W.Frag) (c : XC) (W : Wd) (e : MX) (C : Value) (d : Option Addr) : Prop :=
  c.mg e.cls = some C ∧ ∃ fs, RF K W e.flds fs ∧ ((d = none ∧ fs = []) ∨ ∃ a, d = some a ∧ Stab W a ∧ W.H a = some (.xd fs))
def PX (K : PySem.W.Frag) (c : XC) (W : Wd) (e : MX) (h : MH) : Prop := ∀ W' C d, Ext W W' → Sim K W' h → XR K c W' e C d → c.E C d W'.H
/-- what is owed behind a run of the mirror that gives r; C: what is wanted of the answer -/
def Pst {α : Type} (K : PySem.W.Frag) (c : XC) (C : Wd → α → Prop) (W : Wd) (r : Res α) : Prop := match r with
  | none => False
  | some (.ok a h) => ∀ W', Ext W W' → Sim K W' h → C W' a
  | some (.ex e h) => PX K c W e h
theorem PX.shift {K : PySem.W.Frag} {c : XC} {W W' : Wd} {e : MX} {h : MH} (x : Ext W W') (p : PX K c W e h) : PX K c W' e h := fun W2 C d x2 s q => p W2 C d (x.trans x2) s q
section
variable {K : PySem.W.Frag} {c : XC} {α β : Type}
theorem Pst.shift {C : Wd → α → Prop} {W W' : Wd} {r : Res α} (x : Ext W W') (p : Pst K c C W r) : Pst K c C W' r := by
  match r, p with
  | some (.ok a h), p => exact fun W2 x2 s => p W2 (x.trans x2) s
  | some (.ex e h), p => exact PX.shift x p
theorem Pst.imp {C C' : Wd → α → Prop} {W : Wd} {r : Res α} (p : Pst K c C W r) (i : ∀ W' a, Ext W W' → C W' a → C' W' a) : Pst K c C' W r := by
  match r, p with
  | some (.ok a h), p => exact fun W2 x2 s => i W2 a x2 (p W2 x2 s)
  | some (.ex e h), p => exact p
/-- a first part, then the rest -/
theorem Pst.bnd {C1 : Wd → α → Prop} {C2 : Wd → β → Prop} {W : Wd} {r : Res α} {k : α → MH → Res β} (p : Pst K c C2 W (r.bnd k))
    (i : ∀ W1 h1 a, Ext W W1 → Sim K W1 h1 → Pst K c C2 W1 (k a h1) → C1 W1 a) : Pst K c C1 W r := by
  match r, p with
  | some (.ok a h), p => exact fun W2 x2 s => i W2 h a x2 s (Pst.shift x2 p)
  | some (.ex e h), p => exact p
end
/-! ### the readings that a mirror gives -/
def CV (K : PySem.W.Frag) (Q : VK) (W : Wd) (x : MV) : Prop := ∀ v, RV K W x v → Q v W.H
def CA (K : PySem.W.Frag) (Q : List V → Hp → Prop) (W : Wd) (xs : List MV) : Prop := ∀ vs, RVs K W xs vs → Q vs W.H
def CB (Q : Bool → Hp → Prop) (W : Wd) (b : Bool) : Prop := Q b W.H
def CO (Q : Option Int → Hp → Prop) (W : Wd) (o : Option Int) : Prop := Q o W.H
/-- a new list: it is not laid yet -/
def CL (K : PySem.W.Frag) (Q : VK) (W : Wd) (xs : List MV) : Prop := ∀ vs p, RVs K W xs vs → W.H p = none → Q (.ref p) (upd W.H p (.lst vs))
def tG {α β : Type} (K : PySem.W.Frag) (c : XC) (C : (β → Hp → Prop) → Wd → α → Prop) (m : MM α) : St → Hp → (β → Hp → Prop) → Prop :=
  fun σ H Q => ∃ W h s, W.H = H ∧ Sim K W h ∧ RS K W s σ ∧ Pst K c (C Q) W (m s h)
abbrev tM (K : PySem.W.Frag) (c : XC) (m : ME) : TE := tG K c (CV K) m
abbrev tMA (K : PySem.W.Frag) (c : XC) (m : MM (List MV)) : TA := tG K c (CA K) m
abbrev tMB (K : PySem.W.Frag) (c : XC) (m : MM Bool) : TT := tG K c CB m
abbrev tMO (K : PySem.W.Frag) (c : XC) (m : MM (Option Int)) : TO := tG K c CO m
abbrev tML (K : PySem.W.Frag) (c : XC) (m : MM (List MV)) : TE := tG K c (CL K) m
/-- an expression's mirror; of a test, of arguments, of an expression that gives a new list -/
abbrev EM (X : Cx) (c : XC) (e : Expr) (m : ME) : Prop := PE X e (tM X.K c m)
abbrev BM (X : Cx) (c : XC) (e : Expr) (m : MM Bool) : Prop := PT X e (tMB X.K c m)
abbrev AM (X : Cx) (c : XC) (es : List Expr) (m : MM (List MV)) : Prop := PA X es (tMA X.K c m)
abbrev LM (X : Cx) (c : XC) (e : Expr) (m : MM (List MV)) : Prop := PE X e (tML X.K c m)
theorem pe_wk {X : Cx} {e : Expr} {t t' : TE} (h : PE X e t) (w : ∀ σ H Q, t' σ H Q → t σ H Q) : PE X e t' := ⟨fun pins s σ H Q I q => h.run pins s σ H Q I (w _ _ _ q)⟩
theorem pt_wk {X : Cx} {e : Expr} {t t' : TT} (h : PT X e t) (w : ∀ σ H Q, t' σ H Q → t σ H Q) : PT X e t' := ⟨fun pins s σ H Q I q => h.run pins s σ H Q I (w _ _ _ q)⟩
theorem pw_wk {X : Cx} {e : Expr} {t t' : TT} (h : PW X e t) (w : ∀ σ H Q, t' σ H Q → t σ H Q) : PW X e t' := ⟨fun wh pins s σ H Q I q => h.run wh pins s σ H Q I (w _ _ _ q)⟩
theorem pa_wk {X : Cx} {e : List Expr} {t t' : TA} (h : PA X e t) (w : ∀ σ H Q, t' σ H Q → t σ H Q) : PA X e t' := ⟨fun po pins s σ H Q I q => h.run po pins s σ H Q I (w _ _ _ q)⟩
theorem po_wk {X : Cx} {e : Option Expr} {t t' : TO} (h : PO X e t) (w : ∀ σ H Q, t' σ H Q → t σ H Q) : PO X e t' := ⟨fun pins s σ H Q I q => h.run pins s σ H Q I (w _ _ _ q)⟩
/-! ### the mirror's words -/
abbrev ok {α : Type} (a : α) (h : MH) : Res α := some (.ok a h)
theorem ok_some {α : Type} (a : α) (h : MH) : ok a h = some (.ok a h) := rfl
@[simp] theorem ok_inj {α : Type} {a b : α} {h h' : MH} : ok a h = ok b h' ↔ a = b ∧ h = h' := ⟨fun e => by
  cases e
  exact ⟨rfl, rfl⟩, fun ⟨e1, e2⟩ => by rw [e1, e2]⟩
@[simp] theorem ok_ne {α : Type} {a : α} {h : MH} : ¬ (ok a h = none) := fun e => by cases e
theorem bnd_ok {α β : Type} {a : α} {h : MH} {k : α → MH → Res β} : (ok a h).bnd k = k a h := rfl
theorem bnd_none {α β : Type} {k : α → MH → Res β} : Res.bnd none k = none := rfl
@[simp ↓] def may {α : Type} (o : Option α) (h : MH) : Res α := match o with
  | some a => ok a h
  | none => none
@[simp ↓] def slot : MS → Nat → Option MV
  | [], _ => none
  | x :: _, 0 => x
  | _ :: r, n + 1 => slot r n
theorem slot_eq : ∀ (s : MS) (i : Nat) {x : MV}, slot s i = some x → s[i]? = some (some x)
  | [], _, _, e => by cases e
  | o :: _, 0, x, e => by
    have e' : o = some x := e
    rw [e']
    rfl
  | _ :: r, n + 1, x, e => by
    have := slot_eq r n (x := x) e
    simpa using this
@[simp ↓] def varM (i : Nat) : ME := fun s h => may (slot s i) h
@[simp ↓] def cM (x : MV) : ME := fun _ h => ok x h
@[simp ↓] def opM (f : MV → MV → MH → Res MV) (a b : ME) : ME := fun s h => (a s h).bnd fun x h1 => (b s h1).bnd fun y h2 => f x y h2
@[simp ↓] def unM (f : MV → MH → Res MV) (a : ME) : ME := fun s h => (a s h).bnd fun x h1 => f x h1
@[simp ↓] def nilA : MM (List MV) := fun _ h => ok [] h
@[simp ↓] def consA (a : ME) (r : MM (List MV)) : MM (List MV) := fun s h => (a s h).bnd fun x h1 => (r s h1).bnd fun xs h2 => ok (x :: xs) h2
def lim : Nat := 1000000
theorem lim_line {n : Nat} (h : n ≤ lim) : n ≤ sizeLine := Nat.le_trans h (by rw [sizeLine_eq]; decide)
@[simp ↓] def tupM (a : MM (List MV)) : ME := fun s h => (a s h).bnd fun xs h1 => if xs.length ≤ lim then ok (.tup xs) h1 else none
@[simp ↓] def lstM (a : MM (List MV)) : MM (List MV) := fun s h => (a s h).bnd fun xs h1 => if xs.length ≤ lim then ok xs h1 else none
@[simp ↓] def flsM (m : MM (List MV)) : ME := fun s h => (m s h).bnd fun xs h1 => ok (.fls xs) h1
@[simp ↓] def refM (m : MM (List MV)) : ME := fun s h => (m s h).bnd fun xs h1 => ok (.ref h1.length) (h1 ++ [.lst xs])
/-- a list's items, a tuple's -/
@[simp ↓] def lstOf (h : MH) : MV → Option (List MV)
  | .fls xs => some xs
  | .frz xs => some xs
  | .ref l => match h[l]? with
    | some (.lst xs) => some xs
    | _ => none
  | _ => none
@[simp ↓] def seqOf (h : MH) : MV → Option (List MV)
  | .tup xs => some xs
  | .ktp xs => some xs
  | x => lstOf h x
section
variable {X : Cx} {c : XC} {e a b : Expr} {es : List Expr} {pos : Pos} {K : PySem.W.Frag} {W : Wd}
theorem em_var {i : Nat} (h : PE X e (tVar i)) : EM X c e (varM i) := pe_wk h fun σ H Q ⟨W, h, s, e, S, rs, p⟩ => by
  subst e
  cases q : slot s i with
  | none =>
    unfold varM may at p
    rw [q] at p
    exact p.elim
  | some x =>
    unfold varM may at p
    rw [q] at p
    obtain ⟨v, hv, r⟩ := rs.get (slot_eq s i q)
    exact ⟨v, hv, p W (Ext.refl W) S v r⟩
theorem em_c {x : MV} {v : V} (h : PE X e (tC v)) (r : ∀ W, RV X.K W x v) : EM X c e (cM x) := pe_wk h fun σ H Q ⟨W, h, s, e, S, rs, p⟩ => by
  subst e
  exact p W (Ext.refl W) S v (r W)
theorem em_int {i j} : EM X c (.Constant (.int i) j pos) (cM (.int i)) := em_c pe_int fun _ => .int i
theorem em_bl {b j} : EM X c (.Constant (.bool b) j pos) (cM (.bl b)) := em_c pe_bl fun _ => .bl b
theorem em_non {j} : EM X c (.Constant .none j pos) (cM .non) := em_c pe_non fun _ => .non
theorem em_str {x j} : EM X c (.Constant (.str x) j pos) (cM (.str x)) := em_c pe_str fun _ => .str x
theorem am_nil : AM X c [] nilA := pa_wk pa_nil fun σ H Q ⟨W, h, s, e, S, rs, p⟩ => by
  subst e
  exact p W (Ext.refl W) S [] .nil
theorem am_cons {ma : ME} {mr : MM (List MV)} (ha : EM X c e ma) (hr : AM X c es mr) (hs : starEach (e :: es) X.env = (false, eval e X.env) :: starEach es X.env := by rfl) : AM X c (e :: es) (consA ma mr) :=
  pa_wk (pa_cons ha hr hs) fun σ H Q ⟨W, h, s, e, S, rs, p⟩ => by
    subst e
    refine ⟨W, h, s, rfl, S, rs, p.bnd fun W1 h1 x x1 S1 p1 v r1 => ?_⟩
    exact ⟨W1, h1, s, rfl, S1, rs.mono x1, p1.bnd fun W2 h2 xs x2 S2 p2 vs r2 => p2 W2 (Ext.refl _) S2 _ (.cons (r1.mono x2) r2)⟩
/-- what a two-place operation's rule owes to the mirror's f -/
def OpM (K : PySem.W.Frag) (c : XC) (r : R2) (f : MV → MV → MH → Res MV) : Prop :=
  ∀ (W : Wd) (h : MH) (x y : MV) (u v : V) (Q : VK), Sim K W h → RV K W x u → RV K W y v → Pst K c (CV K Q) W (f x y h) → r u v W.H Q
def UnM (K : PySem.W.Frag) (c : XC) (r : V → Hp → VK → Prop) (f : MV → MH → Res MV) : Prop :=
  ∀ (W : Wd) (h : MH) (x : MV) (u : V) (Q : VK), Sim K W h → RV K W x u → Pst K c (CV K Q) W (f x h) → r u W.H Q
theorem tOp_of {r : R2} {f : MV → MV → MH → Res MV} {ma mb : ME} (ho : OpM K c r f) {σ : St} {H : Hp} {Q : VK} (q : tM K c (opM f ma mb) σ H Q) : tOp r (tM K c ma) (tM K c mb) σ H Q := by
  obtain ⟨W, h, s, e, S, rs, p⟩ := q
  subst e
  refine ⟨W, h, s, rfl, S, rs, p.bnd fun W1 h1 x x1 S1 p1 u r1 => ?_⟩
  exact ⟨W1, h1, s, rfl, S1, rs.mono x1, p1.bnd fun W2 h2 y x2 S2 p2 v r2 => ho W2 h2 x y u v Q S2 (r1.mono x2) r2 p2⟩
theorem em_op {op : Operator} {r : R2} {f : MV → MV → MH → Res MV} {ma mb : ME} (hr : OpR X (binaryOp op) r) (ho : OpM X.K c r f) (ha : EM X c a ma) (hb : EM X c b mb) : EM X c (.BinOp a op b pos) (opM f ma mb) :=
  pe_wk (pe_op hr ha hb) fun σ H Q q => tOp_of ho q
theorem em_cmp {op : CmpOp} {r : R2} {f : MV → MV → MH → Res MV} {ma mb : ME} (hr : OpR X (compareOp op) r) (ho : OpM X.K c r f) (ha : EM X c a ma) (hb : EM X c b mb) (hm : behindInMarks op b = false) : EM X c (.Compare a [op] [b] pos) (opM f ma mb) :=
  pe_wk (pe_cmpR hr ha hb hm) fun σ H Q q => tOp_of ho q
theorem em_ix {r : R2} {f : MV → MV → MH → Res MV} {ma mb : ME} (hr : IxR X r) (ho : OpM X.K c r f) (ha : EM X c a ma) (hb : EM X c b mb) (hs : PlainIx b) : EM X c (.Subscript a b pos) (opM f ma mb) :=
  pe_wk (pe_ix hr ha hb hs) fun σ H Q q => tOp_of ho q
theorem em_un {op : UnaryOp} {r : V → Hp → VK → Prop} {f : MV → MH → Res MV} {ma : ME} (hr : UnR X (unaryOp op) r) (ho : UnM X.K c r f) (ha : EM X c a ma) : EM X c (.UnaryOp op a pos) (unM f ma) :=
  pe_wk (pe_un hr ha) fun σ H Q ⟨W, h, s, e, S, rs, p⟩ => by
    subst e
    exact ⟨W, h, s, rfl, S, rs, p.bnd fun W1 h1 x x1 S1 p1 u r1 => ho W1 h1 x u Q S1 r1 p1⟩
/-! displays -/
theorem em_tup {k : Nat} {m : MM (List MV)} (h : AM X c es m) : EM X c (.Tuple es k pos) (tupM m) := pe_wk (pe_tup h) fun σ H Q ⟨W, h, s, e, S, rs, p⟩ => by
  subst e
  refine ⟨W, h, s, rfl, S, rs, p.bnd fun W1 h1 xs x1 S1 p1 vs r1 => ?_⟩
  by_cases hl : xs.length ≤ lim
  · rw [if_pos hl] at p1
    refine ⟨lim_line (by rw [← r1.length]; exact hl), fun q hq => ?_⟩
    exact p1 (W1.put q (.tup vs)) (Ext.put S1 hq) (S1.put hq) (.ref q) (.tup (S1.fresh hq) upd_same (r1.mono (Ext.put S1 hq)))
  · rw [if_neg hl] at p1
    exact p1.elim
theorem lm_lst {m : MM (List MV)} (h : AM X c es m) : LM X c (.List es pos) (lstM m) := pe_wk (pe_lst h) fun σ H Q ⟨W, h, s, e, S, rs, p⟩ => by
  subst e
  refine ⟨W, h, s, rfl, S, rs, p.bnd fun W1 h1 xs x1 S1 p1 vs r1 => ?_⟩
  by_cases hl : xs.length ≤ lim
  · rw [if_pos hl] at p1
    exact ⟨lim_line (by rw [← r1.length]; exact hl), fun q hq => p1 W1 (Ext.refl _) S1 vs q r1 hq⟩
  · rw [if_neg hl] at p1
    exact p1.elim
/-- a new list that stands still from now on; one that is written -/
theorem fls_of {m : MM (List MV)} {σ : St} {H : Hp} {Q : VK} (q : tM K c (flsM m) σ H Q) : tML K c m σ H Q := by
  obtain ⟨W, h, s, e, S, rs, p⟩ := q
  subst e
  refine ⟨W, h, s, rfl, S, rs, p.bnd fun W1 h1 xs x1 S1 p1 vs q r1 hq => ?_⟩
  exact p1 (W1.put q (.lst vs)) (Ext.put S1 hq) (S1.put hq) (.ref q) (.fls (S1.fresh hq) upd_same (r1.mono (Ext.put S1 hq)))
theorem ref_of {m : MM (List MV)} {σ : St} {H : Hp} {Q : VK} (q : tM K c (refM m) σ H Q) : tML K c m σ H Q := by
  obtain ⟨W, h, s, e, S, rs, p⟩ := q
  subst e
  refine ⟨W, h, s, rfl, S, rs, p.bnd fun W1 h1 xs x1 S1 p1 vs q r1 hq => ?_⟩
  refine p1 (W1.add q (.lst vs)) (Ext.add S1 hq) (S1.add hq ⟨vs, upd_same, r1.mono (Ext.add S1 hq)⟩) (.ref q) (.ref ?_ fun b hb => ?_)
  · show h1.length < W1.n + 1
    rw [S1.n]
    exact Nat.lt_succ_self _
  · have hb' : (if h1.length = W1.n then some q else W1.f h1.length) = some b := hb
    rw [if_pos S1.n.symm] at hb'
    exact (Option.some.inj hb').symm
theorem em_fls {m : MM (List MV)} (h : LM X c e m) : EM X c e (flsM m) := pe_wk h fun _ _ _ q => fls_of q
theorem em_ref {m : MM (List MV)} (h : LM X c e m) : EM X c e (refM m) := pe_wk h fun _ _ _ q => ref_of q
/-! a list, a tuple as it is read -/
theorem lst_sq {h : MH} {x : MV} {v : V} {xs : List MV} (S : Sim K W h) (r : RV K W x v) (e : lstOf h x = some xs) : ∃ p vs, v = .ref p ∧ SqL K W.H p vs ∧ RVs K W xs vs := by
  cases r with
  | fls s q t =>
    cases e
    exact ⟨_, _, rfl, .inl (.inl q), t⟩
  | frz s q t =>
    cases e
    exact ⟨_, _, rfl, .inl q, t⟩
  | frzK q t =>
    cases e
    exact ⟨_, _, rfl, q _, t⟩
  | @ref l a0 lt q =>
    have e' : (match h[l]? with | some (.lst xs) => some xs | _ => none) = some xs := e
    cases hl : h[l]? with
    | none =>
      rw [hl] at e'
      cases e'
    | some o =>
      rw [hl] at e'
      cases o with
      | lst ys =>
        cases e'
        obtain ⟨a, vs, e1, e2, e3, r3⟩ := S.lstAt hl (.ref lt q)
        exact ⟨a, vs, e1, .inl (.inl e3), r3⟩
      | _ => cases e'
  | _ => cases e
theorem tup_sq {x : List MV} {v : V} (r : RV K W (.tup x) v) : ∃ p vs, v = .ref p ∧ SqT K W.H p vs ∧ RVs K W x vs := by
  cases r with
  | tup s q t => exact ⟨_, _, rfl, .inl (.inl q), t⟩
theorem ktp_sq {x : List MV} {v : V} (r : RV K W (.ktp x) v) : ∃ p vs, v = .ref p ∧ SqT K W.H p vs ∧ RVs K W x vs := by
  cases r with
  | tupK q t => exact ⟨_, _, rfl, q _, t⟩
theorem seq_sq {h : MH} {x : MV} {v : V} {xs : List MV} (S : Sim K W h) (r : RV K W x v) (e : seqOf h x = some xs) : ∃ p vs, v = .ref p ∧ (SqL K W.H p vs ∨ SqT K W.H p vs) ∧ RVs K W xs vs := by
  cases x with
  | tup ys =>
    cases e
    obtain ⟨p, vs, a, b, d⟩ := tup_sq r
    exact ⟨p, vs, a, .inr b, d⟩
  | ktp ys =>
    cases e
    obtain ⟨p, vs, a, b, d⟩ := ktp_sq r
    exact ⟨p, vs, a, .inr b, d⟩
  | _ =>
    obtain ⟨p, vs, a, b, d⟩ := lst_sq S r e
    exact ⟨p, vs, a, .inl b, d⟩
end
end Mi
set_option maxHeartbeats 2000000
/-! Mi: operations. -/
namespace Mi
open PySem L2
/-! ### operations by values -/
def mulOk (i j : Int) : Prop := (-18446744073709551616 < i ∧ i < 18446744073709551616) ∨ (-18446744073709551616 < j ∧ j < 18446744073709551616)
/-- by choice: the kernel shall not reckon with the great numbers in it -/
noncomputable instance (i j : Int) : Decidable (mulOk i j) := Classical.propDecidable _
@[simp ↓] def addF (x y : MV) (h : MH) : Res MV := match x, y with
  | .int i, .int j => ok (.int (i + j)) h
  | .str i, .str j => if i.length + j.length ≤ lim then ok (.str (i ++ j)) h else none
  | .tup i, .tup j => if i.length + j.length ≤ lim then ok (.tup (i ++ j)) h else none
  | _, _ => none
@[simp ↓] def subF (x y : MV) (h : MH) : Res MV := match x, y with
  | .int i, .int j => ok (.int (i - j)) h
  | _, _ => none
@[simp ↓] noncomputable def mulF (x y : MV) (h : MH) : Res MV := match x, y with
  | .int i, .int j => if mulOk i j then ok (.int (i * j)) h else none
  | _, _ => none
@[simp ↓] def divF (x y : MV) (h : MH) : Res MV := match x, y with
  | .int i, .int j => if 0 < j ∧ j < 1073741824 then ok (.int (i / j)) h else none
  | _, _ => none
@[simp ↓] def modF (x y : MV) (h : MH) : Res MV := match x, y with
  | .int i, .int j => if 0 < j then ok (.int (i % j)) h else none
  | _, _ => none
@[simp ↓] def andF (x y : MV) (h : MH) : Res MV := match x, y with
  | .int i, .int j => ok (.int (Builtin.bitAnd i j)) h
  | _, _ => none
@[simp ↓] def orF (x y : MV) (h : MH) : Res MV := match x, y with
  | .int i, .int j => ok (.int (Builtin.bitOr i j)) h
  | _, _ => none
@[simp ↓] def xorF (x y : MV) (h : MH) : Res MV := match x, y with
  | .int i, .int j => ok (.int (Builtin.bitXor i j)) h
  | _, _ => none
def powOk (i j : Int) : Prop := 0 ≤ j ∧ j ≤ 1000000 ∧ i.natAbs < 18446744073709551616
instance (i j : Int) : Decidable (powOk i j) := by unfold powOk; exact inferInstance
@[simp ↓] def powF (x y : MV) (h : MH) : Res MV := match x, y with
  | .int i, .int j => if powOk i j then ok (.int (i ^ j.toNat)) h else none
  | _, _ => none
@[simp ↓] def shlF (x y : MV) (h : MH) : Res MV := match x, y with
  | .int i, .int j => if powOk i j then ok (.int (i * 2 ^ j.toNat)) h else none
  | _, _ => none
@[simp ↓] def shrF (x y : MV) (h : MH) : Res MV := match x, y with
  | .int i, .int j => if 0 ≤ j then ok (.int (i / 2 ^ j.toNat)) h else none
  | _, _ => none
@[simp ↓] def negF (x : MV) (h : MH) : Res MV := match x with
  | .int i => ok (.int (-i)) h
  | _ => none
@[simp ↓] def invF (x : MV) (h : MH) : Res MV := match x with
  | .int i => ok (.int (Builtin.bitNot i)) h
  | _ => none
section
variable {X : Cx} {c : XC} {K : PySem.W.Frag}
theorem rv_int {W : Wd} {i : Int} {v : V} (r : RV K W (.int i) v) : v = .int i := by
  cases r
  rfl
theorem rv_bl {W : Wd} {i : Bool} {v : V} (r : RV K W (.bl i) v) : v = .bl i := by
  cases r
  rfl
theorem rv_str {W : Wd} {i : Str} {v : V} (r : RV K W (.str i) v) : v = .str i := by
  cases r
  rfl
theorem rv_non {W : Wd} {v : V} (r : RV K W .non v) : v = .non := by
  cases r
  rfl
/-- the answer comes at once -/
theorem Pst.now {α : Type} {C : Wd → α → Prop} {W : Wd} {h : MH} {a : α} (p : Pst K c C W (ok a h)) (S : Sim K W h) : C W a := p W (Ext.refl W) S
theorem opm_I0 {f : MV → MV → MH → Res MV} {g : Int → Int → Int} (hf : ∀ x y h, (∃ i j, x = .int i ∧ y = .int j ∧ f x y h = ok (.int (g i j)) h) ∨ f x y h = none) : OpM K c (rI0 fun i j => .int (g i j)) f :=
  fun W h x y u v Q S r1 r2 p => by
    rcases hf x y h with ⟨i, j, e1, e2, e⟩ | e
    · subst e1 e2
      rw [e] at p
      exact ⟨i, j, rv_int r1, rv_int r2, p.now S _ (.int _)⟩
    · rw [e] at p
      exact p.elim
theorem opm_I {C : Int → Int → Prop} {f : MV → MV → MH → Res MV} {g : Int → Int → Int} (hf : ∀ x y h, (∃ i j, x = .int i ∧ y = .int j ∧ C i j ∧ f x y h = ok (.int (g i j)) h) ∨ f x y h = none) : OpM K c (rI C fun i j => .int (g i j)) f :=
  fun W h x y u v Q S r1 r2 p => by
    rcases hf x y h with ⟨i, j, e1, e2, hc, e⟩ | e
    · subst e1 e2
      rw [e] at p
      exact ⟨i, j, rv_int r1, rv_int r2, hc, p.now S _ (.int _)⟩
    · rw [e] at p
      exact p.elim
theorem opm_sub : OpM K c (rI0 fun i j => .int (i - j)) subF := opm_I0 fun x y h => by
  cases x <;> cases y <;> first | exact .inr rfl | exact .inl ⟨_, _, rfl, rfl, rfl⟩
theorem opm_and : OpM K c (rI0 fun i j => .int (Builtin.bitAnd i j)) andF := opm_I0 fun x y h => by
  cases x <;> cases y <;> first | exact .inr rfl | exact .inl ⟨_, _, rfl, rfl, rfl⟩
theorem opm_or : OpM K c (rI0 fun i j => .int (Builtin.bitOr i j)) orF := opm_I0 fun x y h => by
  cases x <;> cases y <;> first | exact .inr rfl | exact .inl ⟨_, _, rfl, rfl, rfl⟩
theorem opm_xor : OpM K c (rI0 fun i j => .int (Builtin.bitXor i j)) xorF := opm_I0 fun x y h => by
  cases x <;> cases y <;> first | exact .inr rfl | exact .inl ⟨_, _, rfl, rfl, rfl⟩
theorem ite_or {α : Type} {P : Prop} [Decidable P] {a b : Option α} {R : Option α → Prop} (h1 : P → R a) (h2 : ¬ P → R b) : R (if P then a else b) := by
  by_cases h : P
  · rw [if_pos h]
    exact h1 h
  · rw [if_neg h]
    exact h2 h
theorem opm_mul : OpM K c (rI CMul fun i j => .int (i * j)) mulF := opm_I fun x y h => by
  cases x <;> cases y <;> first | exact .inr rfl | skip
  rename_i i j
  by_cases q : mulOk i j
  · exact .inl ⟨i, j, rfl, rfl, q, if_pos q⟩
  · exact .inr (if_neg q)
theorem opm_div : OpM K c (rI CDiv fun i j => .int (i / j)) divF := opm_I fun x y h => by
  cases x <;> cases y <;> first | exact .inr rfl | skip
  rename_i i j
  by_cases q : 0 < j ∧ j < 1073741824
  · exact .inl ⟨i, j, rfl, rfl, q, if_pos q⟩
  · exact .inr (if_neg q)
theorem opm_mod : OpM K c (rI (fun _ j => 0 < j) fun i j => .int (i % j)) modF := opm_I fun x y h => by
  cases x <;> cases y <;> first | exact .inr rfl | skip
  rename_i i j
  by_cases q : 0 < j
  · exact .inl ⟨i, j, rfl, rfl, q, if_pos q⟩
  · exact .inr (if_neg q)
theorem powOk_is {i j : Int} (h : powOk i j) : CPow i j := ⟨h.1, h.2.1, h.2.2⟩
theorem opm_pow : OpM K c (rI CPow fun i j => .int (i ^ j.toNat)) powF := opm_I fun x y h => by
  cases x <;> cases y <;> first | exact .inr rfl | skip
  rename_i i j
  by_cases q : powOk i j
  · exact .inl ⟨i, j, rfl, rfl, powOk_is q, if_pos q⟩
  · exact .inr (if_neg q)
theorem opm_shl : OpM K c (rI CPow fun i j => .int (i * 2 ^ j.toNat)) shlF := opm_I fun x y h => by
  cases x <;> cases y <;> first | exact .inr rfl | skip
  rename_i i j
  by_cases q : powOk i j
  · exact .inl ⟨i, j, rfl, rfl, powOk_is q, if_pos q⟩
  · exact .inr (if_neg q)
theorem opm_shr : OpM K c (rI (fun _ j => 0 ≤ j) fun i j => .int (i / 2 ^ j.toNat)) shrF := opm_I fun x y h => by
  cases x <;> cases y <;> first | exact .inr rfl | skip
  rename_i i j
  by_cases q : 0 ≤ j
  · exact .inl ⟨i, j, rfl, rfl, q, if_pos q⟩
  · exact .inr (if_neg q)
theorem opm_or2 {r r' : R2} {f : MV → MV → MH → Res MV} (h : ∀ W h x y u v (Q : VK), Sim K W h → RV K W x u → RV K W y v → Pst K c (CV K Q) W (f x y h) → r u v W.H Q ∨ r' u v W.H Q) : OpM K c (fun x y H Q => r x y H Q ∨ r' x y H Q) f := h
/-- x + y of ints, texts, tuples -/
def rAddA (K : PySem.W.Frag) : R2 := fun x y H Q => (∃ i j, x = .int i ∧ y = .int j ∧ Q (.int (i + j)) H) ∨ (∃ i j, x = .str i ∧ y = .str j ∧ i.length + j.length ≤ sizeLine ∧ Q (.str (i ++ j)) H) ∨ rCatA K x y H Q
theorem op_addA : OpR X (binaryOp .Add) (rAddA X.K) := OpR.or op_add (OpR.or op_add_str op_catA)
theorem opm_add : OpM K c (rAddA K) addF := fun W h x y u v Q S r1 r2 p => by
  cases x <;> cases y <;> first | exact p.elim | skip
  · rename_i i j
    exact .inl ⟨i, j, rv_int r1, rv_int r2, p.now S _ (.int _)⟩
  · rename_i i j
    by_cases q : i.length + j.length ≤ lim
    · have p' : Pst K c (CV K Q) W (if i.length + j.length ≤ lim then ok (.str (i ++ j)) h else none) := p
      rw [if_pos q] at p'
      exact .inr (.inl ⟨i, j, rv_str r1, rv_str r2, lim_line q, p'.now S _ (.str _)⟩)
    · have p' : Pst K c (CV K Q) W (if i.length + j.length ≤ lim then ok (.str (i ++ j)) h else none) := p
      rw [if_neg q] at p'
      exact p'.elim
  · rename_i i j
    have p' : Pst K c (CV K Q) W (if i.length + j.length ≤ lim then ok (.tup (i ++ j)) h else none) := p
    by_cases q : i.length + j.length ≤ lim
    · rw [if_pos q] at p'
      obtain ⟨a, xs, rfl, ha, t1⟩ := tup_sq r1
      obtain ⟨b, ys, rfl, hb, t2⟩ := tup_sq r2
      refine .inr (.inr ⟨a, b, xs, ys, rfl, rfl, ha, hb, lim_line (by rw [← t1.length, ← t2.length]; exact q), fun e => ?_, fun e e' => ?_, fun e e' d hd => ?_⟩)
      · subst e
        cases t1
        exact p'.now S _ r2
      · subst e'
        cases t2
        rw [List.append_nil] at p'
        exact p'.now S _ r1
      · exact p' (W.put d (.tup (xs ++ ys))) (Ext.put S hd) (S.put hd) (.ref d) (.tup (S.fresh hd) upd_same ((t1.mono (Ext.put S hd)).append (t2.mono (Ext.put S hd))))
    · rw [if_neg q] at p'
      exact p'.elim
theorem unm_neg : UnM K c (rU fun i => .int (-i)) negF := fun W h x u Q S r p => by
  cases x <;> first | exact p.elim | skip
  rename_i i
  exact ⟨i, rv_int r, p.now S _ (.int _)⟩
theorem unm_inv : UnM K c (rU fun i => .int (Builtin.bitNot i)) invF := fun W h x u Q S r p => by
  cases x <;> first | exact p.elim | skip
  rename_i i
  exact ⟨i, rv_int r, p.now S _ (.int _)⟩
end
/-! ### comparisons -/
@[simp ↓] def ltF (x y : MV) (h : MH) : Res MV := match x, y with
  | .int i, .int j => ok (.bl (decide (i < j))) h
  | _, _ => none
@[simp ↓] def leF (x y : MV) (h : MH) : Res MV := match x, y with
  | .int i, .int j => ok (.bl (decide (i ≤ j))) h
  | _, _ => none
@[simp ↓] def gtF (x y : MV) (h : MH) : Res MV := match x, y with
  | .int i, .int j => ok (.bl (decide (j < i))) h
  | _, _ => none
@[simp ↓] def geF (x y : MV) (h : MH) : Res MV := match x, y with
  | .int i, .int j => ok (.bl (decide (j ≤ i))) h
  | _, _ => none
mutual
/-- a value as plain data (no place of the heap in it) -/
def pyOf : MV → Option PyData
  | .non => some .none
  | .bl b => some (.bool b)
  | .int i => some (.int i)
  | .str x => some (.str x)
  | .tup xs => (pysOf xs).map .tuple
  | .ktp xs => (pysOf xs).map .tuple
  | .fls xs => (pysOf xs).map .list
  | .frz xs => (pysOf xs).map .list
  | .ref _ => none
  | .exc .. => none
def pysOf : List MV → Option (List PyData)
  | [] => some []
  | x :: xs => match pyOf x, pysOf xs with
    | some d, some ds => some (d :: ds)
    | _, _ => none
end
/-- == by values -/
def eqB (x y : MV) : Option Bool := match x, y with
  | .int i, .int j => some (decide (i = j))
  | .bl i, .bl j => some (decide (i = j))
  | .str i, .str j => some (decide (i = j))
  | .non, .non => some true
  | _, _ => match pyOf x, pyOf y with
    | some d, some e => if SeqAt.shaped d = true ∧ SeqAt.shaped e = true then some (PyData.eqv d e) else none
    | _, _ => none
@[simp ↓] def eqF (x y : MV) (h : MH) : Res MV := match eqB x y with
  | some b => ok (.bl b) h
  | none => none
@[simp ↓] def neF (x y : MV) (h : MH) : Res MV := match eqB x y with
  | some b => ok (.bl (!b)) h
  | none => none
@[simp ↓] def isnF (x : MV) (h : MH) : Res MV := match x with
  | .non => ok (.bl true) h
  | _ => ok (.bl false) h
@[simp ↓] def notnF (x : MV) (h : MH) : Res MV := match x with
  | .non => ok (.bl false) h
  | _ => ok (.bl true) h
@[simp ↓] def isF (x y : MV) (h : MH) : Res MV := match y with
  | .non => isnF x h
  | _ => none
@[simp ↓] def notF (x y : MV) (h : MH) : Res MV := match y with
  | .non => notnF x h
  | _ => none
section
variable {X : Cx} {c : XC} {K : PySem.W.Frag} {W : Wd}
theorem opm_B0 {f : MV → MV → MH → Res MV} {g : Int → Int → Bool} (hf : ∀ x y h, (∃ i j, x = .int i ∧ y = .int j ∧ f x y h = ok (.bl (g i j)) h) ∨ f x y h = none) : OpM K c (rI0 fun i j => .bl (g i j)) f :=
  fun W h x y u v Q S r1 r2 p => by
    rcases hf x y h with ⟨i, j, e1, e2, e⟩ | e
    · subst e1 e2
      rw [e] at p
      exact ⟨i, j, rv_int r1, rv_int r2, p.now S _ (.bl _)⟩
    · rw [e] at p
      exact p.elim
theorem opm_lt : OpM K c (rI0 fun i j => .bl (decide (i < j))) ltF := opm_B0 fun x y h => by
  cases x <;> cases y <;> first | exact .inr rfl | exact .inl ⟨_, _, rfl, rfl, rfl⟩
theorem opm_le : OpM K c (rI0 fun i j => .bl (decide (i ≤ j))) leF := opm_B0 fun x y h => by
  cases x <;> cases y <;> first | exact .inr rfl | exact .inl ⟨_, _, rfl, rfl, rfl⟩
theorem opm_gt : OpM K c (rI0 fun i j => .bl (decide (j < i))) gtF := opm_B0 fun x y h => by
  cases x <;> cases y <;> first | exact .inr rfl | exact .inl ⟨_, _, rfl, rfl, rfl⟩
theorem opm_ge : OpM K c (rI0 fun i j => .bl (decide (j ≤ i))) geF := opm_B0 fun x y h => by
  cases x <;> cases y <;> first | exact .inr rfl | exact .inl ⟨_, _, rfl, rfl, rfl⟩
mutual
theorem py_dp : ∀ {x : MV} {v : V} {d : PyData}, RV K W x v → pyOf x = some d → Dp K W.H v d
  | .non, _, _, .non, e => by
    cases e
    exact .non
  | .bl b, _, _, .bl _, e => by
    cases e
    exact .bl b
  | .int i, _, _, .int _, e => by
    cases e
    exact .int i
  | .str x, _, _, .str _, e => by
    cases e
    exact .str x
  | .tup xs, _, d, .tup s q t, e => by
    unfold pyOf at e
    cases h : pysOf xs with
    | none =>
      rw [h] at e
      cases e
    | some ds =>
      rw [h] at e
      cases e
      exact .tup (.inl (.inl q)) (pys_dp t h)
  | .ktp xs, _, d, .tupK q t, e => by
    unfold pyOf at e
    cases h : pysOf xs with
    | none =>
      rw [h] at e
      cases e
    | some ds =>
      rw [h] at e
      cases e
      exact .tup (q _) (pys_dp t h)
  | .fls xs, _, d, .fls s q t, e => by
    unfold pyOf at e
    cases h : pysOf xs with
    | none =>
      rw [h] at e
      cases e
    | some ds =>
      rw [h] at e
      cases e
      exact .lst (.inl (.inl q)) (pys_dp t h)
  | .frz xs, _, d, .frz s q t, e => by
    unfold pyOf at e
    cases h : pysOf xs with
    | none =>
      rw [h] at e
      cases e
    | some ds =>
      rw [h] at e
      cases e
      exact .lst (.inl q) (pys_dp t h)
  | .frz xs, _, d, .frzK q t, e => by
    unfold pyOf at e
    cases h : pysOf xs with
    | none =>
      rw [h] at e
      cases e
    | some ds =>
      rw [h] at e
      cases e
      exact .lst (q _) (pys_dp t h)
  | .ref _, _, _, _, e => by cases e
  | .exc .., _, _, _, e => by cases e
theorem pys_dp : ∀ {xs : List MV} {vs : List V} {ds : List PyData}, RVs K W xs vs → pysOf xs = some ds → DpAll K W.H vs ds
  | [], _, _, .nil, e => by
    cases e
    exact .nil
  | x :: xs, _, _, .cons r t, e => by
    unfold pysOf at e
    cases h : pyOf x with
    | none =>
      rw [h] at e
      cases e
    | some d =>
      cases h2 : pysOf xs with
      | none =>
        rw [h, h2] at e
        cases e
      | some ds =>
        rw [h, h2] at e
        cases e
        exact .cons (py_dp r h) (pys_dp t h2)
end
def rEqA (K : PySem.W.Frag) : R2 := fun x y H Q => rEq x y H Q ∨ rEqD K x y H Q
def rNeA (K : PySem.W.Frag) : R2 := fun x y H Q => rNe x y H Q ∨ rNeD K x y H Q
theorem op_eqA (hu : X.A.units + 64 < cLine) : OpR X (compareOp .Eq) (rEqA X.K) := OpR.or op_eq (op_eqD hu)
theorem op_neA (hu : X.A.units + 64 < cLine) : OpR X (compareOp .NotEq) (rNeA X.K) := OpR.or op_ne (op_neD hu)
theorem eqB_cases {x y : MV} {u v : V} {b : Bool} (r1 : RV K W x u) (r2 : RV K W y v) (e : eqB x y = some b) :
    (scal u v = true ∧ decide (u = v) = b) ∨ ∃ d e, Dp K W.H u d ∧ Dp K W.H v e ∧ SeqAt.shaped d = true ∧ SeqAt.shaped e = true ∧ PyData.eqv d e = b := by
  have deep : ∀ x y : MV, RV K W x u → RV K W y v → (match pyOf x, pyOf y with | some d, some e => if SeqAt.shaped d = true ∧ SeqAt.shaped e = true then some (PyData.eqv d e) else none | _, _ => none) = some b →
      ∃ d e, Dp K W.H u d ∧ Dp K W.H v e ∧ SeqAt.shaped d = true ∧ SeqAt.shaped e = true ∧ PyData.eqv d e = b := fun x y r1 r2 e => by
    cases h : pyOf x with
    | none =>
      rw [h] at e
      cases e
    | some d =>
      cases h2 : pyOf y with
      | none =>
        rw [h, h2] at e
        cases e
      | some d2 =>
        rw [h, h2] at e
        have e' : (if SeqAt.shaped d = true ∧ SeqAt.shaped d2 = true then some (PyData.eqv d d2) else none) = some b := e
        by_cases q : SeqAt.shaped d = true ∧ SeqAt.shaped d2 = true
        · rw [if_pos q] at e'
          exact ⟨d, d2, py_dp r1 h, py_dp r2 h2, q.1, q.2, Option.some.inj e'⟩
        · rw [if_neg q] at e'
          cases e'
  cases x <;> cases y <;> first
    | exact .inr (deep _ _ r1 r2 e)
    | (cases r1; cases r2; exact .inl ⟨rfl, by simpa [eqB] using e⟩)
theorem opm_eq : OpM K c (rEqA K) eqF := fun W h x y u v Q S r1 r2 p => by
  unfold eqF at p
  cases e : eqB x y with
  | none =>
    rw [e] at p
    exact p.elim
  | some b =>
    rw [e] at p
    rcases eqB_cases r1 r2 e with ⟨a, d⟩ | ⟨d, e2, a1, a2, a3, a4, a5⟩
    · exact .inl ⟨a, by rw [d]; exact p.now S _ (.bl _)⟩
    · exact .inr ⟨d, e2, a1, a2, a3, a4, by rw [a5]; exact p.now S _ (.bl _)⟩
theorem opm_ne : OpM K c (rNeA K) neF := fun W h x y u v Q S r1 r2 p => by
  unfold neF at p
  cases e : eqB x y with
  | none =>
    rw [e] at p
    exact p.elim
  | some b =>
    rw [e] at p
    rcases eqB_cases r1 r2 e with ⟨a, d⟩ | ⟨d, e2, a1, a2, a3, a4, a5⟩
    · exact .inl ⟨a, by rw [d]; exact p.now S _ (.bl _)⟩
    · exact .inr ⟨d, e2, a1, a2, a3, a4, by rw [a5]; exact p.now S _ (.bl _)⟩
theorem opm_isn : OpM K c (fun x y H Q => y = .non ∧ Q (.bl (decide (x = .non))) H) isF := fun W h x y u v Q S r1 r2 p => by
  cases y <;> first | exact p.elim | skip
  refine ⟨rv_non r2, ?_⟩
  cases x <;> cases r1 <;> exact p.now S _ (.bl _)
theorem opm_notn : OpM K c (fun x y H Q => y = .non ∧ Q (.bl (!decide (x = .non))) H) notF := fun W h x y u v Q S r1 r2 p => by
  cases y <;> first | exact p.elim | skip
  refine ⟨rv_non r2, ?_⟩
  cases x <;> cases r1 <;> exact p.now S _ (.bl _)
end
/-! ### in -/
@[simp ↓] def flatM : MV → Bool
  | .non => true
  | .bl _ => true
  | .int _ => true
  | .str _ => true
  | _ => false
@[simp ↓] def eqM : MV → MV → Bool
  | .non, .non => true
  | .bl a, .bl b => a == b
  | .bl a, .int b => (if a then 1 else 0) == b
  | .int a, .bl b => a == (if b then 1 else 0)
  | .int a, .int b => a == b
  | .str a, .str b => a == b
  | _, _ => false
def inM (x : MV) (xs : List MV) : Bool := xs.any fun y => eqM y x
@[simp ↓] def inF (x y : MV) (h : MH) : Res MV := match seqOf h y with
  | some xs => if flatM x = true ∧ xs.all flatM = true then ok (.bl (inM x xs)) h else none
  | none => none
@[simp ↓] def ninF (x y : MV) (h : MH) : Res MV := match seqOf h y with
  | some xs => if flatM x = true ∧ xs.all flatM = true then ok (.bl (!inM x xs)) h else none
  | none => none
section
variable {X : Cx} {c : XC} {K : PySem.W.Frag} {W : Wd}
theorem flat_V {x : MV} {v : V} (r : RV K W x v) (h : flatM x = true) : flatV v = true := by
  cases r <;> first | rfl | cases h
theorem eq_V {x y : MV} {u v : V} (r1 : RV K W x u) (r2 : RV K W y v) (h1 : flatM x = true) (h2 : flatM y = true) : eqV u v = eqM x y := by
  cases r1 <;> cases r2 <;> first
    | rfl
    | exact absurd h1 Bool.false_ne_true
    | exact absurd h2 Bool.false_ne_true
theorem in_V {x : MV} {u : V} (r : RV K W x u) (hx : flatM x = true) : ∀ {xs : List MV} {vs : List V}, RVs K W xs vs → xs.all flatM = true → vs.all flatV = true ∧ inV u vs = inM x xs
  | _, _, .nil, _ => ⟨rfl, rfl⟩
  | _, _, .cons q t, h => by
    rw [List.all_cons, Bool.and_eq_true] at h
    obtain ⟨a, b⟩ := in_V r hx t h.2
    refine ⟨by rw [List.all_cons, flat_V q h.1, a]; rfl, ?_⟩
    unfold inV inM at b ⊢
    rw [List.any_cons, List.any_cons, eq_V q r h.1 hx, b]
theorem opm_in : OpM K c (rIn K false) inF := fun W h x y u v Q S r1 r2 p => by
  unfold inF at p
  cases e : seqOf h y with
  | none =>
    rw [e] at p
    exact p.elim
  | some xs =>
    rw [e] at p
    have p' : Pst K c (CV K Q) W (if flatM x = true ∧ xs.all flatM = true then ok (.bl (inM x xs)) h else none) := p
    by_cases q : flatM x = true ∧ xs.all flatM = true
    · rw [if_pos q] at p'
      obtain ⟨a, vs, e1, e2, t⟩ := seq_sq S r2 e
      obtain ⟨h1, h2⟩ := in_V r1 q.1 t q.2
      refine ⟨a, vs, e1, e2, flat_V r1 q.1, h1, ?_⟩
      rw [if_neg Bool.false_ne_true, h2]
      exact p'.now S _ (.bl _)
    · rw [if_neg q] at p'
      exact p'.elim
theorem opm_nin : OpM K c (rIn K true) ninF := fun W h x y u v Q S r1 r2 p => by
  unfold ninF at p
  cases e : seqOf h y with
  | none =>
    rw [e] at p
    exact p.elim
  | some xs =>
    rw [e] at p
    have p' : Pst K c (CV K Q) W (if flatM x = true ∧ xs.all flatM = true then ok (.bl (!inM x xs)) h else none) := p
    by_cases q : flatM x = true ∧ xs.all flatM = true
    · rw [if_pos q] at p'
      obtain ⟨a, vs, e1, e2, t⟩ := seq_sq S r2 e
      obtain ⟨h1, h2⟩ := in_V r1 q.1 t q.2
      refine ⟨a, vs, e1, e2, flat_V r1 q.1, h1, ?_⟩
      rw [if_pos rfl, h2]
      exact p'.now S _ (.bl _)
    · rw [if_neg q] at p'
      exact p'.elim
end
/-! ### subscripts -/
@[simp ↓] def ixF (x y : MV) (h : MH) : Res MV := match y with
  | .int i => match x with
    | .str z => if z.length ≤ lim then (match atI z.cps.toList i with
      | some q => ok (.str ⟨#[q]⟩) h
      | none => none) else none
    | _ => match seqOf h x with
      | some xs => match atI xs i with
        | some z => ok z h
        | none => none
      | none => none
  | _ => none
section
variable {X : Cx} {c : XC} {K : PySem.W.Frag} {W : Wd}
theorem RVs.atI {xs : List MV} {vs : List V} {i : Int} {x : MV} (t : RVs K W xs vs) (e : L2.atI xs i = some x) : ∃ v, L2.atI vs i = some v ∧ RV K W x v := by
  unfold L2.atI at e ⊢
  rw [← t.length]
  cases h : ixN xs.length i with
  | none =>
    rw [h] at e
    cases e
  | some j =>
    rw [h] at e
    exact t.get e
theorem opm_ix : OpM K c (rIx K) ixF := fun W h x y u v Q S r1 r2 p => by
  unfold ixF at p
  cases y with
  | int i =>
    have go : ∀ x : MV, RV K W x u → Pst K c (CV K Q) W (match seqOf h x with | some xs => (match L2.atI xs i with | some z => ok z h | none => none) | none => none) → rIx K u v W.H Q := fun x r1 p => by
      cases e : seqOf h x with
      | none =>
        rw [e] at p
        exact p.elim
      | some xs =>
        rw [e] at p
        have p' : Pst K c (CV K Q) W (match L2.atI xs i with | some z => ok z h | none => none) := p
        cases e2 : L2.atI xs i with
        | none =>
          rw [e2] at p'
          exact p'.elim
        | some z =>
          rw [e2] at p'
          obtain ⟨a, vs, q1, q2, t⟩ := seq_sq S r1 e
          obtain ⟨w, q3, q4⟩ := t.atI e2
          rcases q2 with q2 | q2
          · exact .inl ⟨a, vs, i, w, q1, rv_int r2, q2, q3, Pst.now p' S _ q4⟩
          · exact .inr (.inl ⟨a, vs, i, w, q1, rv_int r2, q2, q3, Pst.now p' S _ q4⟩)
    cases x with
    | str z =>
      have p' : Pst K c (CV K Q) W (if z.length ≤ lim then (match L2.atI z.cps.toList i with | some q => ok (.str ⟨#[q]⟩) h | none => none) else none) := p
      by_cases q : z.length ≤ lim
      · rw [if_pos q] at p'
        cases e : L2.atI z.cps.toList i with
        | none =>
          rw [e] at p'
          exact p'.elim
        | some w =>
          rw [e] at p'
          exact .inr (.inr ⟨z, i, w, rv_str r1, rv_int r2, lim_line q, e, Pst.now p' S _ (.str _)⟩)
      · rw [if_neg q] at p'
        exact p'.elim
    | _ => exact go _ r1 p
  | _ => exact p.elim
end
end Mi
set_option maxHeartbeats 2000000
/-! Mi: tests, statements, loops, comprehensions, calls. -/
namespace Mi
open PySem L2
/-! ### tests -/
@[simp ↓] def boolF (x : MV) (h : MH) : Res Bool := match x with
  | .bl b => ok b h
  | _ => none
@[simp ↓] def tstM (m : ME) : MM Bool := fun s h => (m s h).bnd boolF
@[simp ↓] def truF (x : MV) (h : MH) : Res Bool := match x with
  | .non => ok false h
  | .bl b => ok b h
  | .int i => ok (i != 0) h
  | .str z => if z.length ≤ lim then ok ((z.length : Int) != 0) h else none
  | .ref l => match h[l]? with
    | some (.lst xs) => ok (!xs.isEmpty) h
    | some (.dK kvs) => ok (!kvs.isEmpty) h
    | _ => none
  | .tup xs => ok (!xs.isEmpty) h
  | .ktp _ => none
  | .fls xs => ok (!xs.isEmpty) h
  | .frz xs => ok (!xs.isEmpty) h
  | .exc .. => none
@[simp ↓] def truM (m : ME) : MM Bool := fun s h => (m s h).bnd truF
@[simp ↓] def andT (a b : MM Bool) : MM Bool := fun s h => (a s h).bnd fun p h1 => if p = true then b s h1 else ok false h1
@[simp ↓] def orT (a b : MM Bool) : MM Bool := fun s h => (a s h).bnd fun p h1 => if p = true then ok true h1 else b s h1
@[simp ↓] def notT (a : MM Bool) : MM Bool := fun s h => (a s h).bnd fun p h1 => ok (!p) h1
@[simp ↓] def yesT : MM Bool := fun _ h => ok true h
@[simp ↓] def andV (a b : ME) : ME := fun s h => (a s h).bnd fun x h1 => (boolF x h1).bnd fun p h2 => if p = true then b s h2 else ok (.bl false) h2
@[simp ↓] def orV (a b : ME) : ME := fun s h => (a s h).bnd fun x h1 => (boolF x h1).bnd fun p h2 => if p = true then ok (.bl true) h2 else b s h2
@[simp ↓] def notV (a : ME) : ME := fun s h => (a s h).bnd fun x h1 => (truF x h1).bnd fun p h2 => ok (.bl (!p)) h2
@[simp ↓] def ifM (t : MM Bool) (a b : ME) : ME := fun s h => (t s h).bnd fun p h1 => if p = true then a s h1 else b s h1
@[simp ↓] def chainM (f g : MV → MV → MH → Res MV) (a b d : ME) : ME := fun s h => (a s h).bnd fun x h1 => (b s h1).bnd fun y h2 => (f x y h2).bnd fun z h3 => (boolF z h3).bnd fun p h4 =>
  if p = true then (d s h4).bnd fun w h5 => g y w h5 else ok (.bl false) h4
abbrev WM (X : Cx) (c : XC) (e : Expr) (m : MM Bool) : Prop := PW X e (tMB X.K c m)
section
variable {X : Cx} {c : XC} {e a b d : Expr} {rest : List Expr} {pos : Pos} {K : PySem.W.Frag} {W : Wd}
theorem boolF_ok {C : Wd → Bool → Prop} {x : MV} {v : V} {h : MH} (S : Sim K W h) (r : RV K W x v) (p : Pst K c C W (boolF x h)) : ∃ b, x = .bl b ∧ v = .bl b ∧ C W b := by
  cases x <;> first | exact p.elim | skip
  rename_i b
  exact ⟨b, rfl, rv_bl r, Pst.now p S⟩
theorem bm_cmp {op : CmpOp} {r : R2} {f : MV → MV → MH → Res MV} {ma mb : ME} (hr : OpR X (compareOp op) r) (ho : OpM X.K c r f) (ha : EM X c a ma) (hb : EM X c b mb) (hm : behindInMarks op b = false) : BM X c (.Compare a [op] [b] pos) (tstM (opM f ma mb)) :=
  pt_wk (pt_cmpR hr ha hb hm) fun σ H Q ⟨W, h, s, e, S, rs, p⟩ => by
    subst e
    refine tOp_of ho ⟨W, h, s, rfl, S, rs, p.bnd fun W1 h1 x x1 S1 p1 v r1 => ?_⟩
    obtain ⟨k, _, e2, q⟩ := boolF_ok S1 r1 p1
    exact ⟨k, e2, q⟩
theorem tru_V {x : MV} {v : V} {h : MH} {C : Wd → Bool → Prop} (S : Sim K W h) (r : RV K W x v) (p : Pst K c C W (truF x h)) : ∃ k, TruV K v W.H k ∧ C W k := by
  cases x with
  | non =>
    cases r
    exact ⟨false, rfl, Pst.now p S⟩
  | bl b =>
    cases r
    exact ⟨b, rfl, Pst.now p S⟩
  | int i =>
    cases r
    exact ⟨_, rfl, Pst.now p S⟩
  | str z =>
    cases r
    have p' : Pst K c C W (if z.length ≤ lim then ok ((z.length : Int) != 0) h else none) := p
    by_cases q : z.length ≤ lim
    · rw [if_pos q] at p'
      exact ⟨_, ⟨lim_line q, rfl⟩, Pst.now p' S⟩
    · rw [if_neg q] at p'
      exact p'.elim
  | tup xs =>
    obtain ⟨q, vs, rfl, hq, t⟩ := tup_sq r
    exact ⟨!vs.isEmpty, .inr (.inl ⟨vs, hq, rfl⟩), by rw [← t.nil_iff]; exact Pst.now p S⟩
  | ktp xs => exact p.elim
  | exc => exact p.elim
  | fls xs =>
    obtain ⟨q, vs, rfl, hq, t⟩ := lst_sq (h := h) S r rfl
    exact ⟨!vs.isEmpty, .inl ⟨vs, hq, rfl⟩, by rw [← t.nil_iff]; exact Pst.now p S⟩
  | frz xs =>
    obtain ⟨q, vs, rfl, hq, t⟩ := lst_sq (h := h) S r rfl
    exact ⟨!vs.isEmpty, .inl ⟨vs, hq, rfl⟩, by rw [← t.nil_iff]; exact Pst.now p S⟩
  | ref l =>
    have p' : Pst K c C W (match h[l]? with | some (.lst xs) => ok (!xs.isEmpty) h | some (.dK kvs) => ok (!kvs.isEmpty) h | _ => none) := p
    cases hl : h[l]? with
    | none =>
      rw [hl] at p'
      exact p'.elim
    | some o =>
      rw [hl] at p'
      cases o with
      | dead => exact p'.elim
      | lst xs =>
        obtain ⟨q, vs, rfl, e1, hq, t⟩ := S.lstAt hl r
        exact ⟨!vs.isEmpty, .inl ⟨vs, .inl (.inl hq), rfl⟩, by rw [← t.nil_iff]; exact Pst.now p' S⟩
      | dK kvs =>
        obtain ⟨q, rfl, e1, kws, hq, t⟩ := S.at hl (by intro z; cases z) r
        refine ⟨!kws.isEmpty, .inr (.inr ⟨kws, hq, rfl⟩), ?_⟩
        have en : kws.isEmpty = kvs.isEmpty := by cases t <;> rfl
        rw [en]
        exact Pst.now p' S
theorem bm_truth {ma : ME} (ha : EM X c a ma) (he : ∀ whole, isTrue a X.env whole = (do let v ← whole; standAt a.pos; holding [v] (truthy v))) : BM X c a (truM ma) :=
  pt_wk (pt_truth ha he) fun σ H Q ⟨W, h, s, e, S, rs, p⟩ => by
    subst e
    refine ⟨W, h, s, rfl, S, rs, p.bnd fun W1 h1 x x1 S1 p1 v r1 => ?_⟩
    exact tru_V S1 r1 p1
theorem wm_and1 {m : MM Bool} (ha : BM X c a m) : WM X c (.BoolOp .And [a] pos) m := pw_and1 ha
theorem wm_or1 {m : MM Bool} (ha : BM X c a m) : WM X c (.BoolOp .Or [a] pos) m := pw_or1 ha
theorem tAnd_of {m n : MM Bool} {σ : St} {H : Hp} {Q : Bool → Hp → Prop} (q : tMB K c (andT m n) σ H Q) : tAnd (tMB K c m) (tMB K c n) σ H Q := by
  obtain ⟨W, h, s, e, S, rs, p⟩ := q
  subst e
  refine ⟨W, h, s, rfl, S, rs, p.bnd fun W1 h1 k x1 S1 p1 => ?_⟩
  cases k with
  | true => exact ⟨W1, h1, s, rfl, S1, rs.mono x1, p1⟩
  | false => exact p1 W1 (Ext.refl _) S1
theorem tOr_of {m n : MM Bool} {σ : St} {H : Hp} {Q : Bool → Hp → Prop} (q : tMB K c (orT m n) σ H Q) : tOr (tMB K c m) (tMB K c n) σ H Q := by
  obtain ⟨W, h, s, e, S, rs, p⟩ := q
  subst e
  refine ⟨W, h, s, rfl, S, rs, p.bnd fun W1 h1 k x1 S1 p1 => ?_⟩
  cases k with
  | false => exact ⟨W1, h1, s, rfl, S1, rs.mono x1, p1⟩
  | true => exact p1 W1 (Ext.refl _) S1
theorem wm_and {m n : MM Bool} (ha : BM X c a m) (hb : WM X c (.BoolOp .And (b :: rest) pos) n) : WM X c (.BoolOp .And (a :: b :: rest) pos) (andT m n) := pw_wk (pw_and ha hb) fun σ H Q q => tAnd_of q
theorem wm_or {m n : MM Bool} (ha : BM X c a m) (hb : WM X c (.BoolOp .Or (b :: rest) pos) n) : WM X c (.BoolOp .Or (a :: b :: rest) pos) (orT m n) := pw_wk (pw_or ha hb) fun σ H Q q => tOr_of q
theorem bm_w {m : MM Bool} (h : WM X c e m) : BM X c e m := h.pt
theorem bm_not {m : MM Bool} (ha : BM X c a m) : BM X c (.UnaryOp .Not a pos) (notT m) := pt_wk (pt_not ha) fun σ H Q ⟨W, h, s, e, S, rs, p⟩ => by
  subst e
  exact ⟨W, h, s, rfl, S, rs, p.bnd fun W1 h1 k x1 S1 p1 => p1 W1 (Ext.refl _) S1⟩
theorem em_one {op} {m : ME} (h : EM X c a m) : EM X c (.BoolOp op [a] pos) m := pe_one h
theorem em_and {ma mb : ME} (ha : EM X c a ma) (hb : EM X c (.BoolOp .And (b :: rest) pos) mb) : EM X c (.BoolOp .And (a :: b :: rest) pos) (andV ma mb) := pe_wk (pe_and ha hb) fun σ H Q ⟨W, h, s, e, S, rs, p⟩ => by
  subst e
  refine ⟨W, h, s, rfl, S, rs, p.bnd fun W1 h1 x x1 S1 p1 v r1 => ?_⟩
  obtain ⟨k, _, e2, q⟩ := boolF_ok (C := fun W k => if k = true then tM X.K c mb σ W.H Q else Q (.bl false) W.H) S1 r1 (p1.bnd fun W2 h2 k x2 S2 p2 => by
    cases k with
    | true =>
      rw [if_pos rfl] at p2 ⊢
      exact ⟨W2, h2, s, rfl, S2, (rs.mono x1).mono x2, p2⟩
    | false =>
      rw [if_neg Bool.false_ne_true] at p2 ⊢
      exact Pst.now p2 S2 _ (.bl _))
  exact ⟨k, e2, q⟩
theorem em_or {ma mb : ME} (ha : EM X c a ma) (hb : EM X c (.BoolOp .Or (b :: rest) pos) mb) : EM X c (.BoolOp .Or (a :: b :: rest) pos) (orV ma mb) := pe_wk (pe_or ha hb) fun σ H Q ⟨W, h, s, e, S, rs, p⟩ => by
  subst e
  refine ⟨W, h, s, rfl, S, rs, p.bnd fun W1 h1 x x1 S1 p1 v r1 => ?_⟩
  obtain ⟨k, _, e2, q⟩ := boolF_ok (C := fun W k => if k = true then Q (.bl true) W.H else tM X.K c mb σ W.H Q) S1 r1 (p1.bnd fun W2 h2 k x2 S2 p2 => by
    cases k with
    | false =>
      rw [if_neg Bool.false_ne_true] at p2 ⊢
      exact ⟨W2, h2, s, rfl, S2, (rs.mono x1).mono x2, p2⟩
    | true =>
      rw [if_pos rfl] at p2 ⊢
      exact Pst.now p2 S2 _ (.bl _))
  exact ⟨k, e2, q⟩
theorem em_if {t : Expr} {mt : MM Bool} {ma mb : ME} (ht : BM X c t mt) (ha : EM X c a ma) (hb : EM X c b mb) : EM X c (.IfExp t a b pos) (ifM mt ma mb) := pe_wk (pe_ifExp ht ha hb) fun σ H Q ⟨W, h, s, e, S, rs, p⟩ => by
  subst e
  refine ⟨W, h, s, rfl, S, rs, p.bnd fun W1 h1 k x1 S1 p1 => ?_⟩
  cases k with
  | true => exact ⟨W1, h1, s, rfl, S1, rs.mono x1, p1⟩
  | false => exact ⟨W1, h1, s, rfl, S1, rs.mono x1, p1⟩
theorem em_not {m : ME} (ha : EM X c a m) : EM X c (.UnaryOp .Not a pos) (notV m) := pe_wk (pe_notT ha) fun σ H Q ⟨W, h, s, e, S, rs, p⟩ => by
  subst e
  refine ⟨W, h, s, rfl, S, rs, p.bnd fun W1 h1 x x1 S1 p1 v r1 => ?_⟩
  exact tru_V S1 r1 (p1.bnd fun W2 h2 k x2 S2 p2 => Pst.now p2 S2 _ (.bl _))
theorem tChain_of {r r' : R2} {f g : MV → MV → MH → Res MV} {ma mb md : ME} (hf : OpM K c r f) (hg : OpM K c r' g) {σ : St} {H : Hp} {Q : VK} (q : tM K c (chainM f g ma mb md) σ H Q) : tChain r r' (tM K c ma) (tM K c mb) (tM K c md) σ H Q := by
  obtain ⟨W, h, s, e, S, rs, p⟩ := q
  subst e
  refine ⟨W, h, s, rfl, S, rs, p.bnd fun W1 h1 x x1 S1 p1 u r1 => ?_⟩
  refine ⟨W1, h1, s, rfl, S1, rs.mono x1, p1.bnd fun W2 h2 y x2 S2 p2 v r2 => ?_⟩
  refine hf W2 h2 x y u v _ S2 (r1.mono x2) r2 (p2.bnd fun W3 h3 z x3 S3 p3 w r3 => ?_)
  obtain ⟨k, _, e2, q⟩ := boolF_ok (C := fun W k => if k = true then tM K c md σ W.H (fun w' H4 => r' v w' H4 Q) else Q (.bl false) W.H) S3 r3 (p3.bnd fun W4 h4 k x4 S4 p4 => by
    cases k with
    | true =>
      rw [if_pos rfl] at p4 ⊢
      exact ⟨W4, h4, s, rfl, S4, (((rs.mono x1).mono x2).mono x3).mono x4, p4.bnd fun W5 h5 w5 x5 S5 p5 u5 r5 => hg W5 h5 y w5 v u5 Q S5 (((r2.mono x3).mono x4).mono x5) r5 p5⟩
    | false =>
      rw [if_neg Bool.false_ne_true] at p4 ⊢
      exact Pst.now p4 S4 _ (.bl _))
  exact ⟨k, e2, q⟩
theorem em_chain {op op' : CmpOp} {r r' : R2} {f g : MV → MV → MH → Res MV} {ma mb md : ME} (hr : OpR X (compareOp op) r) (hr' : OpR X (compareOp op') r') (hf : OpM X.K c r f) (hg : OpM X.K c r' g) (ha : EM X c a ma) (hb : EM X c b mb) (hd : EM X c d md)
    (hm : lastMarks [op, op'] [b, d] = false := by with_unfolding_all rfl) : EM X c (.Compare a [op, op'] [b, d] pos) (chainM f g ma mb md) := pe_wk (pe_chain hr hr' ha hb hd hm) fun σ H Q q => tChain_of hf hg q
theorem bm_chain {op op' : CmpOp} {r r' : R2} {f g : MV → MV → MH → Res MV} {ma mb md : ME} (hr : OpR X (compareOp op) r) (hr' : OpR X (compareOp op') r') (hf : OpM X.K c r f) (hg : OpM X.K c r' g) (ha : EM X c a ma) (hb : EM X c b mb) (hd : EM X c d md)
    (hm : lastMarks [op, op'] [b, d] = false := by with_unfolding_all rfl) : BM X c (.Compare a [op, op'] [b, d] pos) (tstM (chainM f g ma mb md)) := pt_wk (pt_chain hr hr' ha hb hd hm) fun σ H Q ⟨W, h, s, e, S, rs, p⟩ => by
  subst e
  refine tChain_of hf hg ⟨W, h, s, rfl, S, rs, p.bnd fun W1 h1 x x1 S1 p1 v r1 => ?_⟩
  obtain ⟨k, _, e2, q⟩ := boolF_ok S1 r1 p1
  exact ⟨k, e2, q⟩
end
/-! ### statements -/
@[simp ↓] def bndS {α : Type} (r : Res α) (k : α → MH → Option OutS) : Option OutS := match r with
  | none => none
  | some (.ok a h) => k a h
  | some (.ex e h) => some (.ex e h)
theorem bndS_ok {α : Type} {a : α} {h : MH} {k : α → MH → Option OutS} : bndS (ok a h) k = k a h := rfl
def PstS (K : PySem.W.Frag) (c : XC) (D : Ends) (W : Wd) (r : Option OutS) : Prop := match r with
  | none => False
  | some (.nx s h) => ∀ W' σ, Ext W W' → Sim K W' h → RS K W' s σ → D.nx σ W'.H
  | some (.ret x h) => ∀ W' v, Ext W W' → Sim K W' h → RV K W' x v → D.rt v W'.H
  | some (.brk s h) => ∀ W' σ, Ext W W' → Sim K W' h → RS K W' s σ → D.bk σ W'.H
  | some (.cnt s h) => ∀ W' σ, Ext W W' → Sim K W' h → RS K W' s σ → D.ct σ W'.H
  | some (.ex e h) => PX K c W e h
def tS (K : PySem.W.Frag) (c : XC) (m : MT) : TS := fun D σ H => ∃ W h s, W.H = H ∧ Sim K W h ∧ RS K W s σ ∧ PstS K c D W (m s h)
abbrev SM (X : Cx) (c : XC) (st : Stmt) (m : MT) : Prop := PS X st (tS X.K c m)
abbrev SsM (X : Cx) (c : XC) (sts : List Stmt) (m : MT) : Prop := PSs X sts (tS X.K c m)
theorem ps_wk {X : Cx} {st : Stmt} {t t' : TS} (h : PS X st t) (w : ∀ D σ H, t' D σ H → t D σ H) : PS X st t' := ⟨fun pins s σ H D I q => h.run pins s σ H D I (w _ _ _ q)⟩
theorem pss_wk {X : Cx} {st : List Stmt} {t t' : TS} (h : PSs X st t) (w : ∀ D σ H, t' D σ H → t D σ H) : PSs X st t' := ⟨fun pins s σ H D I q => h.run pins s σ H D I (w _ _ _ q)⟩
section
variable {K : PySem.W.Frag} {c : XC} {α : Type} {D : Ends} {W W' : Wd}
theorem PstS.shift {r : Option OutS} (x : Ext W W') (p : PstS K c D W r) : PstS K c D W' r := by
  match r, p with
  | some (.nx s h), p => exact fun W2 σ x2 S rs => p W2 σ (x.trans x2) S rs
  | some (.ret s h), p => exact fun W2 σ x2 S rs => p W2 σ (x.trans x2) S rs
  | some (.brk s h), p => exact fun W2 σ x2 S rs => p W2 σ (x.trans x2) S rs
  | some (.cnt s h), p => exact fun W2 σ x2 S rs => p W2 σ (x.trans x2) S rs
  | some (.ex e h), p => exact PX.shift x p
theorem PstS.bnd {C : Wd → α → Prop} {r : Res α} {k : α → MH → Option OutS} (p : PstS K c D W (bndS r k))
    (i : ∀ W1 h1 a, Ext W W1 → Sim K W1 h1 → PstS K c D W1 (k a h1) → C W1 a) : Pst K c C W r := by
  match r, p with
  | some (.ok a h), p => exact fun W2 x2 s => i W2 h a x2 s (PstS.shift x2 p)
  | some (.ex e h), p => exact p
end
@[simp ↓] def nilS : MT := fun s h => some (.nx s h)
@[simp ↓] def seqS (a b : MT) : MT := fun s h => match a s h with
  | some (.nx s1 h1) => b s1 h1
  | r => r
@[simp ↓] def setS (i : Nat) (m : ME) : MT := fun s h => bndS (m s h) fun x h1 => some (.nx (s.set i (some x)) h1)
@[simp ↓] def dropS (m : ME) : MT := fun s h => bndS (m s h) fun _ h1 => some (.nx s h1)
@[simp ↓] def retS (m : ME) : MT := fun s h => bndS (m s h) fun x h1 => some (.ret x h1)
@[simp ↓] def retnS : MT := fun _ h => some (.ret .non h)
@[simp ↓] def ifS (t : MM Bool) (a b : MT) : MT := fun s h => bndS (t s h) fun p h1 => if p = true then a s h1 else b s h1
@[simp ↓] def brkS : MT := fun s h => some (.brk s h)
@[simp ↓] def cntS : MT := fun s h => some (.cnt s h)
def neverS : MT := fun _ _ => none
/-- names that take a tuple's items -/
@[simp ↓] def putAll : List Nat → List MV → MS → Option MS
  | [], [], s => some s
  | i :: is, x :: xs, s => putAll is xs (s.set i (some x))
  | _, _, _ => none
@[simp ↓] def unp (is : List Nat) (x : MV) (s : MS) : Option MS := match x with
  | .tup xs => putAll is xs s
  | _ => none
@[simp ↓] def one (i : Nat) (x : MV) (s : MS) : Option MS := some (s.set i (some x))
@[simp ↓] def asgS (g : MV → MS → Option MS) (m : ME) : MT := fun s h => bndS (m s h) fun x h1 => match g x s with
  | some s1 => some (.nx s1 h1)
  | none => none
@[simp ↓] def wrF (l : Nat) (i : Int) (x : MV) (h : MH) : Option MH := match h[l]? with
  | some (.lst xs) => match ixN xs.length i with
    | some j => some (h.set l (.lst (xs.set j x)))
    | none => none
  | _ => none
@[simp ↓] def subS (m o i : ME) : MT := fun s h => bndS (m s h) fun x h1 => bndS (o s h1) fun y h2 => bndS (i s h2) fun z h3 => match y, z with
  | .ref l, .int j => match wrF l j x h3 with
    | some h4 => some (.nx s h4)
    | none => none
  | _, _ => none
@[simp ↓] def augS (i : Nat) (f : Int → Int → Int) (m : ME) : MT := fun s h => match slot s i with
  | some (.int a) => bndS (m s h) fun y h1 => match y with
    | .int b => some (.nx (s.set i (some (.int (f a b)))) h1)
    | _ => none
  | _ => none
section
variable {X : Cx} {c : XC} {e a b o : Expr} {pos : Pos} {K : PySem.W.Frag} {st : Stmt} {rest sts : List Stmt}
theorem ss_nil : SsM X c [] nilS := pss_wk pss_nil fun D σ H ⟨W, h, s, e, S, rs, p⟩ => by
  subst e
  exact p W σ (Ext.refl W) S rs
theorem ss_cons {m n : MT} (h1 : SM X c st m) (h2 : SsM X c rest n) : SsM X c (st :: rest) (seqS m n) := pss_wk (pss_cons h1 h2) fun D σ H ⟨W, h, s, e, S, rs, p⟩ => by
  subst e
  refine ⟨W, h, s, rfl, S, rs, ?_⟩
  unfold seqS at p
  cases q : m s h with
  | none =>
    rw [q] at p
    exact p.elim
  | some r =>
    rw [q] at p
    cases r with
    | nx s1 h1 => exact fun W1 σ1 x1 S1 rs1 => ⟨W1, h1, s1, rfl, S1, rs1, PstS.shift x1 p⟩
    | ret x h1 => exact p
    | brk s1 h1 => exact p
    | cnt s1 h1 => exact p
    | ex x h1 => exact p
theorem ss_one {m : MT} (h : SM X c st m) : SsM X c [st] m := pss_one h
theorem s_pass : SM X c (.Pass pos) nilS := ps_wk ps_pass fun D σ H ⟨W, h, s, e, S, rs, p⟩ => by
  subst e
  exact p W σ (Ext.refl W) S rs
theorem s_break : SM X c (.Break pos) brkS := ps_wk ps_break fun D σ H ⟨W, h, s, e, S, rs, p⟩ => by
  subst e
  exact p W σ (Ext.refl W) S rs
theorem s_continue : SM X c (.Continue pos) cntS := ps_wk ps_continue fun D σ H ⟨W, h, s, e, S, rs, p⟩ => by
  subst e
  exact p W σ (Ext.refl W) S rs
theorem s_never : SM X c st neverS := ps_wk ps_never fun D σ H ⟨W, h, s, e, S, rs, p⟩ => p.elim
theorem s_expr {m : ME} (he : EM X c e m) (hs : swapsWith e none pos.line X.env = pure false := by rfl) : SM X c (.Expr e pos) (dropS m) := ps_wk (ps_expr he hs) fun D σ H ⟨W, h, s, e, S, rs, p⟩ => by
  subst e
  exact ⟨W, h, s, rfl, S, rs, p.bnd fun W1 h1 x x1 S1 p1 v r1 => p1 W1 σ (Ext.refl _) S1 (rs.mono x1)⟩
theorem s_ret {m : ME} (he : EM X c e m) : SM X c (.Return (some e) pos) (retS m) := ps_wk (ps_ret he) fun D σ H ⟨W, h, s, e, S, rs, p⟩ => by
  subst e
  exact ⟨W, h, s, rfl, S, rs, p.bnd fun W1 h1 x x1 S1 p1 v r1 => p1 W1 v (Ext.refl _) S1 r1⟩
theorem s_retn : SM X c (.Return none pos) retnS := ps_wk ps_retN fun D σ H ⟨W, h, s, e, S, rs, p⟩ => by
  subst e
  exact p W _ (Ext.refl W) S .non
theorem s_if {t : Expr} {mt : MM Bool} {ma mb : MT} {aa bb : List Stmt} (ht : BM X c t mt) (ha : SsM X c aa ma) (hb : SsM X c bb mb) : SM X c (.If t aa bb pos) (ifS mt ma mb) := ps_wk (ps_if ht ha hb) fun D σ H ⟨W, h, s, e, S, rs, p⟩ => by
  subst e
  refine ⟨W, h, s, rfl, S, rs, p.bnd fun W1 h1 k x1 S1 p1 => ?_⟩
  cases k with
  | true => exact ⟨W1, h1, s, rfl, S1, rs.mono x1, p1⟩
  | false => exact ⟨W1, h1, s, rfl, S1, rs.mono x1, p1⟩
theorem s_set {i : Nat} {x : Str} {m : ME} {pos' : Pos} (hN : X.N.Nodup) (hi : X.N[i]? = some x) (hx : Loc X.env.scope x) (he : EM X c e m) (hs : swapsWith e (some (.Name x pos')) pos.line X.env = pure false := by rfl) (hf : X.fn x = true ∨ X.env.scope.names.lookup x = some .local := by first | exact .inl rfl | exact .inr rfl | assumption) :
    SM X c (.Assign [.Name x pos'] e pos) (setS i m) := ps_wk (ps_set hN hi hx he hs hf) fun D σ H ⟨W, h, s, e, S, rs, p⟩ => by
  subst e
  exact ⟨W, h, s, rfl, S, rs, p.bnd fun W1 h1 y x1 S1 p1 v r1 => p1 W1 _ (Ext.refl _) S1 ((rs.mono x1).set r1 i)⟩
/-- what a target's rule owes to the mirror's g -/
def TgM (K : PySem.W.Frag) (t : TG) (g : MV → MS → Option MS) : Prop := ∀ (W : Wd) (s s' : MS) (σ : St) (x : MV) (v : V) (Q : St → Hp → Prop), RS K W s σ → RV K W x v → g x s = some s' → (∀ σ', RS K W s' σ' → Q σ' W.H) → t v σ W.H Q
theorem tg_one (i : Nat) : TgM K (gName i) (one i) := fun W s s' σ x v Q rs r e q => by
  cases e
  exact q _ (rs.set r i)
def gNames : List Nat → TGs
  | [] => gNil
  | i :: is => gCons (gName i) (gNames is)
theorem tg_all : ∀ (is : List Nat) (W : Wd) (s s' : MS) (σ : St) (xs : List MV) (vs : List V) (Q : St → Hp → Prop), RS K W s σ → RVs K W xs vs → putAll is xs s = some s' → (∀ σ', RS K W s' σ' → Q σ' W.H) → gNames is vs σ W.H Q
  | [], W, s, s', σ, [], _, Q, rs, .nil, e, q => by
    cases e
    exact ⟨rfl, q σ rs⟩
  | i :: is, W, s, s', σ, x :: xs, _, Q, rs, .cons r t, e, q => ⟨_, _, rfl, tg_all is W _ s' _ xs _ Q (rs.set r i) t e q⟩
  | [], _, _, _, _, _ :: _, _, _, _, _, e, _ => by cases e
  | _ :: _, _, _, _, _, [], _, _, _, _, e, _ => by cases e
theorem putAll_len : ∀ {is : List Nat} {xs : List MV} {s s' : MS}, putAll is xs s = some s' → xs.length = is.length
  | [], [], _, _, _ => rfl
  | i :: is, x :: xs, s, s', e => by
    rw [List.length_cons, List.length_cons, putAll_len (show putAll is xs (s.set i (some x)) = some s' from e)]
  | [], _ :: _, _, _, e => by cases e
  | _ :: _, [], _, _, e => by cases e
theorem tg_tup (is : List Nat) : TgM K (gTup K is.length (gNames is)) (unp is) := fun W s s' σ x v Q rs r e q => by
  cases x <;> first | (cases e; done) | skip
  rename_i xs
  obtain ⟨a, vs, rfl, hq, t⟩ := tup_sq r
  exact ⟨a, vs, rfl, hq, by rw [← t.length]; exact putAll_len e, tg_all is W s s' σ xs vs Q rs t e q⟩
theorem s_asg {tg : Expr} {t : TG} {g : MV → MS → Option MS} {m : ME} (he : EM X c e m) (hg : PG X tg t) (ho : TgM X.K t g) (hs : swapsWithSole [tg] e pos.line X.env = pure false := by rfl) (hw : swappedStores [tg] e X.env = pure none := by rfl)
    (h1 : (assignEach [tg] X.env).map (·.2) = [assign tg X.env] := by rfl) : SM X c (.Assign [tg] e pos) (asgS g m) := ps_wk (ps_asg he hg hs hw h1) fun D σ H ⟨W, h, s, e, S, rs, p⟩ => by
  subst e
  refine ⟨W, h, s, rfl, S, rs, p.bnd fun W1 h1 y x1 S1 p1 v r1 => ?_⟩
  cases q : g y s with
  | none =>
    rw [q] at p1
    exact p1.elim
  | some s1 =>
    rw [q] at p1
    exact ho W1 s s1 σ y v _ (rs.mono x1) r1 q fun σ' rs' => p1 W1 σ' (Ext.refl _) S1 rs'
/-- o[i] = e, a list's item -/
theorem wrF_ok {W : Wd} {h h' : MH} {l : Nat} {j : Int} {x : MV} {u v : V} {Q : Hp → Prop} (S : Sim K W h) (r : RV K W (.ref l) u) (rx : RV K W x v) (e : wrF l j x h = some h') (q : ∀ W', Ext W W' → Sim K W' h' → Q W'.H) : rSetL u (.int j) v W.H Q := by
  unfold wrF at e
  cases hl : h[l]? with
  | none =>
    rw [hl] at e
    cases e
  | some m =>
    rw [hl] at e
    cases m with
    | lst xs =>
      have e' : (match ixN xs.length j with | some j => some (h.set l (MO.lst (xs.set j x))) | none => none) = some h' := e
      cases hi : ixN xs.length j with
      | none =>
        rw [hi] at e'
        cases e'
      | some k =>
        rw [hi] at e'
        cases e'
        obtain ⟨p, vs, rfl, e1, e2, t⟩ := S.lstAt hl r
        refine ⟨p, vs, j, k, rfl, rfl, e2, by rw [← t.length]; exact hi, ?_⟩
        exact q (W.wr p (.lst (vs.set k v))) (Ext.wr S e1) (S.wr e1 ⟨_, upd_same, (t.set rx k).mono (Ext.wr S e1)⟩)
    | dead => cases e
    | dK kvs => cases e
theorem s_sub {m mo mi : ME} {i : Expr} {p' : Pos} (he : EM X c e m) (ho : EM X c o mo) (hi : EM X c i mi) (ha : ∀ v, assign (.Subscript o i p') X.env v = (do let o1 ← holding [v] (eval o X.env); let i1 ← holding [v, o1] (eval i X.env); standAt p'; holding [v, o1, i1] (setItem o1 i1 v); release [v, o1, i1] []) := by intro _; rfl) (hs : swapsWithSole [.Subscript o i p'] e pos.line X.env = pure false := by rfl) (hw : swappedStores [.Subscript o i p'] e X.env = pure none := by rfl)
    (h1 : (assignEach [.Subscript o i p'] X.env).map (·.2) = [assign (.Subscript o i p') X.env] := by rfl) : SM X c (.Assign [.Subscript o i p'] e pos) (subS m mo mi) := ps_wk (ps_asg he (pg_sub ho hi set_list ha) hs hw h1) fun D σ H ⟨W, h, s, e, S, rs, p⟩ => by
  subst e
  refine ⟨W, h, s, rfl, S, rs, p.bnd fun W1 h1 y x1 S1 p1 v r1 => ?_⟩
  refine ⟨W1, h1, s, rfl, S1, rs.mono x1, p1.bnd fun W2 h2 y2 x2 S2 p2 v2 r2 => ?_⟩
  refine ⟨W2, h2, s, rfl, S2, (rs.mono x1).mono x2, p2.bnd fun W3 h3 y3 x3 S3 p3 v3 r3 => ?_⟩
  cases y2 <;> first | exact p3.elim | skip
  cases y3 <;> first | exact p3.elim | skip
  rename_i l j
  cases q : wrF l j y h3 with
  | none =>
    simp only [q] at p3
    exact p3.elim
  | some h4 =>
    simp only [q] at p3
    rw [rv_int r3]
    exact wrF_ok S3 (r2.mono x3) ((r1.mono x2).mono x3) q fun W4 x4 S4 => p3 W4 σ x4 S4 (((rs.mono x1).mono x2).mono (x3.trans x4))
theorem s_aug {i : Nat} {x : Str} {m : ME} {op : Operator} {f : Int → Int → Int} {p' : Pos} (hN : X.N.Nodup) (hi : X.N[i]? = some x) (hx : Loc X.env.scope x) (hop : PIp X op (ipI f)) (he : EM X c e m)
    (hf : X.fn x = true ∨ X.env.scope.names.lookup x = some .local := by first | exact .inl rfl | exact .inr rfl | assumption) : SM X c (.AugAssign (.Name x p') op e pos) (augS i f m) := ps_wk (ps_aug hN hi hx he hop hf) fun D σ H ⟨W, h, s, e, S, rs, p⟩ => by
  subst e
  unfold augS at p
  cases q : slot s i with
  | none =>
    rw [q] at p
    exact p.elim
  | some y =>
    rw [q] at p
    cases y <;> first | exact p.elim | skip
    rename_i a
    obtain ⟨v, hv, r⟩ := rs.get (slot_eq s i q)
    refine ⟨v, hv, W, h, s, rfl, S, rs, p.bnd fun W1 h1 y x1 S1 p1 u r1 => ?_⟩
    cases y <;> first | exact p1.elim | skip
    rename_i b
    exact ⟨a, b, rv_int r, rv_int r1, p1 W1 _ (Ext.refl _) S1 ((rs.mono x1).set (.int _) i)⟩
end
end Mi
set_option maxHeartbeats 2000000
/-! Mi: loops, comprehensions, own defs. -/
namespace Mi
open PySem L2
/-! ### what is walked -/
inductive MIter where
  | st (its : List MV) | dyn (l n : Nat)
def JR (K : PySem.W.Frag) (W : Wd) (it : MIter) (J : It) : Prop := match it with
  | .st its => ∀ (i : Nat) (W' : Wd) (h : MH), Ext W W' → Sim K W' h →
      (∀ x, its[i]? = some x → J.go i W'.H ∧ ∀ v H2, J.yld i W'.H v H2 → ∃ W2, W2.H = H2 ∧ Ext W' W2 ∧ Sim K W2 h ∧ RV K W2 x v) ∧ (its.length ≤ i → J.stop i W'.H)
  | .dyn l _ => ∃ a, W.f l = some a ∧ J = Itl K a
def CI (K : PySem.W.Frag) (R : It → Hp → Prop) (W : Wd) (it : MIter) : Prop := ∀ J, JR K W it J → R J W.H
abbrev tMI (K : PySem.W.Frag) (c : XC) (m : MM MIter) : TI := tG K c (CI K) m
abbrev IM (X : Cx) (c : XC) (tg e : Expr) (m : MM MIter) : Prop := PI X tg e (tMI X.K c m)
theorem pi_wk {X : Cx} {tg e : Expr} {t t' : TI} (h : PI X tg e t) (w : ∀ σ H R, t' σ H R → t σ H R) : PI X tg e t' := ⟨fun pins s σ H R I q => h.run pins s σ H R I (w _ _ _ q)⟩
@[simp ↓] def seqI (m : ME) : MM MIter := fun s h => (m s h).bnd fun x h1 => match x with
  | .tup xs => ok (.st xs) h1
  | .ktp xs => ok (.st xs) h1
  | .fls xs => ok (.st xs) h1
  | .frz xs => ok (.st xs) h1
  | .ref l => match h1[l]? with
    | some (.lst xs) => ok (.dyn l (xs.length + 1)) h1
    | _ => none
  | _ => none
def runOf (a : Int) (n : Nat) : List MV := (List.range n).map fun (i : Nat) => MV.int (a + (i : Int))
@[simp ↓] def rng1F (xs : List MV) (h : MH) : Res MIter := match xs with
  | [.int n] => if n ≤ 1000000 ∧ -1000000 ≤ n then ok (.st (runOf 0 n.toNat)) h else none
  | _ => none
@[simp ↓] def rng2F (xs : List MV) (h : MH) : Res MIter := match xs with
  | [.int a, .int b] => if (a ≤ 1000000 ∧ -1000000 ≤ a) ∧ (b ≤ 1000000 ∧ -1000000 ≤ b) then ok (.st (runOf a (b - a).toNat)) h else none
  | _ => none
@[simp ↓] def rng1 (m : MM (List MV)) : MM MIter := fun s h => (m s h).bnd rng1F
@[simp ↓] def rng2 (m : MM (List MV)) : MM MIter := fun s h => (m s h).bnd rng2F
section
variable {X : Cx} {c : XC} {tg e a b : Expr} {K : PySem.W.Frag} {W : Wd}
/-- a list or a tuple, walked -/
def iSeq (K : PySem.W.Frag) (tl : TE) : TI := fun σ H R => tl σ H fun x H1 => (∃ a, x = .ref a ∧ (∃ xs, SqL K H1 a xs) ∧ R (Itl K a) H1) ∨ ∃ a, x = .ref a ∧ (∃ xs, SqT K H1 a xs) ∧ R (Itt K a) H1
theorem pi_seq {tl : TE} (hl : PE X e tl) : PI X tg e (iSeq X.K tl) := by
  refine ⟨fun pins s σ H R I h => thn (hl.run pins s σ H _ I h) fun v s1 ⟨x, H1, I1, r1, q1⟩ => ?_⟩
  have at1 : ∀ b ∈ [s1.heap.objs.size], FpOk X pins H1 b := fun b hb => by
    obtain rfl : b = s1.heap.objs.size := by simpa using hb
    exact I1.fpOk (Nat.le_refl _) (I1.hok.fresh (Nat.le_refl _))
  rcases q1 with ⟨a, e, ⟨xs, hq⟩, q⟩ | ⟨a, e, ⟨xs, hq⟩, q⟩
  · subst e
    cases r1
    obtain ⟨its, rv, p, hz⟩ := I1.list hq
    exact wpAny_pyIter_list p.isList ⟨s1.heap.objs.size, [s1.heap.objs.size], _, _, H1, rfl, I1.kept (t' := s1.toks) (fun b o z => Heap.get?_push_of_some _ z),
      turn_list a _, ⟨_, Heap.get?_push_size _ rfl, rfl, rfl⟩, at1, q⟩
  · subst e
    cases r1
    obtain ⟨its, rv, p, hz⟩ := I1.tuple hq
    exact wpAny_pyIter_tuple (show s1.heap.IsTuple a its.toArray from p) ⟨s1.heap.objs.size, [s1.heap.objs.size], _, _, H1, rfl, I1.kept (t' := s1.toks) (fun b o z => Heap.get?_push_of_some _ z),
      turn_tuple a _, ⟨_, Heap.get?_push_size _ rfl, rfl, rfl⟩, at1, q⟩
theorem rd_lst_inj {H : Hp} {p : Addr} {o : HO} {vs ws : List V} (h : H p = some o) (a : o = .lst vs ∨ ∃ u, o = .frz u (.lst vs)) (b : Rd H p (.lst ws)) : ws = vs := by
  rcases b with b | ⟨z, b⟩ <;> rw [h] at b <;> rcases a with a | ⟨u, a⟩ <;> subst a <;> cases b <;> rfl
theorem sql_get {H : Hp} {p : Addr} {vs : List V} {i : Nat} {v : V} (h : SqL K H p vs) (y : ∀ xs, SqL K H p xs → xs[i]? = some v) : vs[i]? = some v := y vs h
theorem jr_lst {x : MV} {u : V} {xs : List MV} {h : MH} (S : Sim K W h) (r : RV K W x u) (hx : x = .fls xs ∨ x = .frz xs) : ∃ a, u = .ref a ∧ (∃ vs, SqL K W.H a vs) ∧ JR K W (.st xs) (Itl K a) := by
  have go : ∀ (W' : Wd), Ext W W' → ∀ h', Sim K W' h' → ∃ a vs, u = .ref a ∧ SqL K W'.H a vs ∧ RVs K W' xs vs := fun W' x' h' S' => by
    have r' := r.mono x'
    rcases hx with e | e <;> subst e
    · obtain ⟨p, vs, e1, e2, t⟩ := lst_sq (h := h') S' r' rfl
      exact ⟨p, vs, e1, e2, t⟩
    · obtain ⟨p, vs, e1, e2, t⟩ := lst_sq (h := h') S' r' rfl
      exact ⟨p, vs, e1, e2, t⟩
  obtain ⟨a, vs, e1, e2, t⟩ := go W (Ext.refl W) h S
  refine ⟨a, e1, ⟨vs, e2⟩, fun i W' h' x' S' => ?_⟩
  obtain ⟨a', ws, e1', e2', t'⟩ := go W' x' h' S'
  rw [e1] at e1'
  cases e1'
  refine ⟨fun y hy => ?_, fun hi => ⟨ws, e2', by rw [← t'.length]; exact hi⟩⟩
  obtain ⟨v, hv, rv⟩ := t'.get hy
  refine ⟨⟨ws, v, e2', hv⟩, fun v2 H2 ⟨eh, y2⟩ => ⟨W', eh.symm, Ext.refl _, S', ?_⟩⟩
  have := y2 ws e2'
  rw [hv] at this
  cases this
  exact rv
theorem jr_tup {u : V} {x : MV} {xs : List MV} {h : MH} (S : Sim K W h) (r : RV K W x u) (hx : x = .tup xs ∨ x = .ktp xs) : ∃ a, u = .ref a ∧ (∃ vs, SqT K W.H a vs) ∧ JR K W (.st xs) (Itt K a) := by
  have sq : ∀ {W' : Wd}, RV K W' x u → ∃ p vs, u = .ref p ∧ SqT K W'.H p vs ∧ RVs K W' xs vs := fun r => by
    rcases hx with e | e <;> subst e
    · exact tup_sq r
    · exact ktp_sq r
  obtain ⟨a, vs, e1, e2, t⟩ := sq r
  refine ⟨a, e1, ⟨vs, e2⟩, fun i W' h' x' S' => ?_⟩
  obtain ⟨a', ws, e1', e2', t'⟩ := sq (r.mono x')
  rw [e1] at e1'
  cases e1'
  refine ⟨fun y hy => ?_, fun hi => ⟨ws, e2', by rw [← t'.length]; exact hi⟩⟩
  obtain ⟨v, hv, rv⟩ := t'.get hy
  refine ⟨⟨ws, v, e2', hv⟩, fun v2 H2 ⟨eh, y2⟩ => ⟨W', eh.symm, Ext.refl _, S', ?_⟩⟩
  have := y2 ws e2'
  rw [hv] at this
  cases this
  exact rv
theorem im_seq {m : ME} (he : EM X c e m) : IM X c tg e (seqI m) := pi_wk (pi_seq he) fun σ H R ⟨W, h, s, e, S, rs, p⟩ => by
  subst e
  refine ⟨W, h, s, rfl, S, rs, p.bnd fun W1 h1 x x1 S1 p1 v r1 => ?_⟩
  cases x with
  | tup xs =>
    obtain ⟨a, e1, e2, j⟩ := jr_tup S1 r1 (.inl rfl)
    exact .inr ⟨a, e1, e2, Pst.now p1 S1 _ j⟩
  | ktp xs =>
    obtain ⟨a, e1, e2, j⟩ := jr_tup S1 r1 (.inr rfl)
    exact .inr ⟨a, e1, e2, Pst.now p1 S1 _ j⟩
  | fls xs =>
    obtain ⟨a, e1, e2, j⟩ := jr_lst S1 r1 (.inl rfl)
    exact .inl ⟨a, e1, e2, Pst.now p1 S1 _ j⟩
  | frz xs =>
    obtain ⟨a, e1, e2, j⟩ := jr_lst S1 r1 (.inr rfl)
    exact .inl ⟨a, e1, e2, Pst.now p1 S1 _ j⟩
  | ref l =>
    have p' : Pst X.K c (CI X.K R) W1 (match h1[l]? with | some (.lst xs) => ok (.dyn l (xs.length + 1)) h1 | _ => none) := p1
    cases hl : h1[l]? with
    | none =>
      rw [hl] at p'
      exact p'.elim
    | some o =>
      rw [hl] at p'
      cases o with
      | lst xs =>
        obtain ⟨a, vs, e1, e2, e3, t⟩ := S1.lstAt hl r1
        exact .inl ⟨a, e1, ⟨vs, .inl (.inl e3)⟩, Pst.now p' S1 _ ⟨a, e2, rfl⟩⟩
      | dead => exact p'.elim
      | dK kvs => exact p'.elim
  | _ => exact p1.elim
theorem runOf_get {a : Int} {n i : Nat} {x : MV} (h : (runOf a n)[i]? = some x) : i < n ∧ x = .int (a + i) := by
  unfold runOf at h
  rw [List.getElem?_map] at h
  by_cases hi : i < n
  · rw [List.getElem?_range hi] at h
    exact ⟨hi, (Option.some.inj h).symm⟩
  · rw [List.getElem?_eq_none (by rw [List.length_range]; omega)] at h
    cases h
theorem runOf_len {a : Int} {n : Nat} : (runOf a n).length = n := by
  unfold runOf
  rw [List.length_map, List.length_range]
theorem jr_rng {a : Int} {n : Nat} : JR K W (.st (runOf a n)) (Itr a n) := fun i W' h' x' S' => by
  refine ⟨fun y hy => ?_, fun hi => by rw [runOf_len] at hi; exact hi⟩
  obtain ⟨h1, h2⟩ := runOf_get hy
  subst h2
  exact ⟨h1, fun v H2 ⟨eh, ev⟩ => ⟨W', eh.symm, Ext.refl _, S', by rw [ev]; exact .int _⟩⟩
theorem rng1F_ok {C : Wd → MIter → Prop} {xs : List MV} {h : MH} (p : Pst K c C W (rng1F xs h)) (S : Sim K W h) : ∃ n : Int, xs = [.int n] ∧ (n ≤ 1000000 ∧ -1000000 ≤ n) ∧ C W (.st (runOf 0 n.toNat)) := by
  unfold rng1F at p
  split at p
  · rename_i n
    by_cases q : n ≤ 1000000 ∧ -1000000 ≤ n
    · rw [if_pos q] at p
      exact ⟨n, rfl, q, Pst.now p S⟩
    · rw [if_neg q] at p
      exact p.elim
  · exact p.elim
theorem rng2F_ok {C : Wd → MIter → Prop} {xs : List MV} {h : MH} (p : Pst K c C W (rng2F xs h)) (S : Sim K W h) : ∃ n k : Int, xs = [.int n, .int k] ∧ ((n ≤ 1000000 ∧ -1000000 ≤ n) ∧ (k ≤ 1000000 ∧ -1000000 ≤ k)) ∧ C W (.st (runOf n (k - n).toNat)) := by
  unfold rng2F at p
  split at p
  · rename_i n k
    by_cases q : (n ≤ 1000000 ∧ -1000000 ≤ n) ∧ (k ≤ 1000000 ∧ -1000000 ≤ k)
    · rw [if_pos q] at p
      exact ⟨n, k, rfl, q, Pst.now p S⟩
    · rw [if_neg q] at p
      exact p.elim
  · exact p.elim
theorem rvs_one {x : MV} {vs : List V} (r : RVs K W [x] vs) : ∃ v, vs = [v] ∧ RV K W x v := by
  cases r with
  | cons r t =>
    cases t
    exact ⟨_, rfl, r⟩
theorem rvs_two {x y : MV} {vs : List V} (r : RVs K W [x, y] vs) : ∃ v w, vs = [v, w] ∧ RV K W x v ∧ RV K W y w := by
  cases r with
  | cons r t =>
    obtain ⟨w, rfl, r2⟩ := rvs_one t
    exact ⟨_, w, rfl, r, r2⟩
theorem im_rng1 {m : MM (List MV)} {p pos : Pos} (hg : Gl X "range") (hm : X.mg "range" = none) (ha : AM X c [a] m) (hs : starEach [a] X.env = [(false, eval a X.env)] := by rfl) : IM X c tg (.Call (.Name "range" p) [a] [] pos) (rng1 m) :=
  pi_wk (pi_range1 hg hm ha hs) fun σ H R ⟨W, h, s, e, S, rs, p⟩ => by
    subst e
    refine ⟨W, h, s, rfl, S, rs, p.bnd fun W1 h1 xs x1 S1 p1 vs r1 => ?_⟩
    obtain ⟨n, rfl, q, p'⟩ := rng1F_ok p1 S1
    obtain ⟨v, rfl, r⟩ := rvs_one r1
    exact ⟨n, by rw [rv_int r], by omega, by omega, p' _ jr_rng⟩
theorem im_rng2 {m : MM (List MV)} {p pos : Pos} (hg : Gl X "range") (hm : X.mg "range" = none) (ha : AM X c [a, b] m) (hs : starEach [a, b] X.env = [(false, eval a X.env), (false, eval b X.env)] := by rfl) (hs2 : starEach [b] X.env = [(false, eval b X.env)] := by rfl) :
    IM X c tg (.Call (.Name "range" p) [a, b] [] pos) (rng2 m) :=
  pi_wk (pi_range2 hg hm ha hs hs2) fun σ H R ⟨W, h, s, e, S, rs, p⟩ => by
    subst e
    refine ⟨W, h, s, rfl, S, rs, p.bnd fun W1 h1 xs x1 S1 p1 vs r1 => ?_⟩
    obtain ⟨n, k, rfl, q, p'⟩ := rng2F_ok p1 S1
    obtain ⟨v, w, rfl, r, r2⟩ := rvs_two r1
    exact ⟨n, k, by rw [rv_int r, rv_int r2], by omega, p' _ jr_rng⟩
end
/-! ### for, while -/
def forS (bd : MV → MT) : List MV → MT
  | [], s, h => some (.nx s h)
  | x :: xs, s, h => match bd x s h with
    | some (.nx s1 h1) => forS bd xs s1 h1
    | some (.cnt s1 h1) => forS bd xs s1 h1
    | some (.brk s1 h1) => some (.nx s1 h1)
    | some (.ret v h1) => some (.ret v h1)
    | some (.ex e h1) => some (.ex e h1)
    | none => none
def forL (bd : MV → MT) (l : Nat) : Nat → Nat → MT
  | 0, _, _, _ => none
  | n + 1, i, s, h => match h[l]? with
    | some (.lst xs) => match xs[i]? with
      | none => some (.nx s h)
      | some x => match bd x s h with
        | some (.nx s1 h1) => forL bd l n (i + 1) s1 h1
        | some (.cnt s1 h1) => forL bd l n (i + 1) s1 h1
        | some (.brk s1 h1) => some (.nx s1 h1)
        | some (.ret v h1) => some (.ret v h1)
        | some (.ex e h1) => some (.ex e h1)
        | none => none
    | _ => none
@[simp ↓] def turnM (g : MV → MS → Option MS) (m : MT) (x : MV) : MT := fun s h => match g x s with
  | some s1 => m s1 h
  | none => none
@[simp ↓] def forM (mi : MM MIter) (g : MV → MS → Option MS) (m : MT) : MT := fun s h => bndS (mi s h) fun it h1 => match it with
  | .st its => forS (turnM g m) its s h1
  | .dyn l n => forL (turnM g m) l n 0 s h1
def whlG (cd : MM Bool) (bd : MT) : Nat → MT
  | 0, _, _ => none
  | n + 1, s, h => bndS (cd s h) fun b h1 => if b = true then (match bd s h1 with
    | some (.nx s1 h2) => whlG cd bd n s1 h2
    | some (.cnt s1 h2) => whlG cd bd n s1 h2
    | some (.brk s1 h2) => some (.nx s1 h2)
    | some (.ret v h2) => some (.ret v h2)
    | some (.ex e h2) => some (.ex e h2)
    | none => none) else some (.nx s h1)
section
variable {X : Cx} {c : XC} {tg e : Expr} {K : PySem.W.Frag} {W : Wd} {pos : Pos} {body : List Stmt}
theorem s_for {mi : MM MIter} {t : TG} {g : MV → MS → Option MS} {m : MT} (hp : PassesOwn (model X.prog X.w) X.A X.env X.xe) (hc : X.calm = true) (hi : IM X c tg e mi) (hg : PG X tg t) (ho : TgM X.K t g) (hb : SsM X c body m)
    (hs : ∀ x, foldedSetIterable e X.env x = pure x := by intro _; rfl) : SM X c (.For tg e body [] pos) (forM mi g m) := ps_wk (ps_for hp hc hi hg hb hs) fun D σ H ⟨W, h, s, e, S, rs, p⟩ => by
  subst e
  refine ⟨W, h, s, rfl, S, rs, p.bnd fun W1 h1 it x1 S1 p1 J jr => ?_⟩
  cases it with
  | st its =>
    refine ⟨fun i n σ' H' => n = its.length - i ∧ i ≤ its.length ∧ ∃ W' h' s', W'.H = H' ∧ Ext W1 W' ∧ Sim X.K W' h' ∧ RS X.K W' s' σ' ∧ PstS X.K c D W' (forS (turnM g m) (its.drop i) s' h'),
      ⟨its.length, rfl, Nat.zero_le _, W1, h1, s, rfl, Ext.refl _, S1, rs.mono x1, p1⟩, ?_⟩
    rintro i n σ' H' ⟨hn, hle, W', h', s', rfl, x', S', rs', p'⟩
    obtain ⟨j1, j2⟩ := jr i W' h' x' S'
    by_cases hi : i < its.length
    · obtain ⟨jg, jy⟩ := j1 its[i] (List.getElem?_eq_getElem hi)
      rw [List.drop_eq_getElem_cons hi] at p'
      refine .inr ⟨jg, fun σ2 H2 => ∃ W2 h2 s2, W2.H = H2 ∧ Ext W1 W2 ∧ Sim X.K W2 h2 ∧ RS X.K W2 s2 σ2 ∧ PstS X.K c D W2 (forS (turnM g m) (its.drop (i + 1)) s2 h2), fun σ2 H2 w => ⟨its.length - (i + 1), by omega, rfl, by omega, w⟩, fun v H2 y => ?_⟩
      obtain ⟨W2, rfl, x2, S2, r2⟩ := jy v H2 y
      have p2 : PstS X.K c D W2 (forS (turnM g m) (its[i] :: its.drop (i + 1)) s' h') := PstS.shift x2 p'
      unfold forS turnM at p2
      cases hgx : g its[i] s' with
      | none =>
        rw [hgx] at p2
        exact p2.elim
      | some s3 =>
        rw [hgx] at p2
        refine ho W2 s' s3 σ' _ v _ (rs'.mono x2) r2 hgx fun σ3 rs3 => ⟨W2, h', s3, rfl, S2, rs3, ?_⟩
        cases hm : m s3 h' with
        | none =>
          simp only [hm] at p2
          exact p2.elim
        | some r =>
          simp only [hm] at p2
          cases r with
          | nx s4 h4 => exact fun W4 σ4 x4 S4 rs4 => ⟨W4, h4, s4, rfl, (x'.trans x2).trans x4, S4, rs4, PstS.shift x4 p2⟩
          | cnt s4 h4 => exact fun W4 σ4 x4 S4 rs4 => ⟨W4, h4, s4, rfl, (x'.trans x2).trans x4, S4, rs4, PstS.shift x4 p2⟩
          | brk s4 h4 => exact p2
          | ret x4 h4 => exact p2
          | ex e4 h4 => exact p2
    · have e0 : its.drop i = [] := List.drop_eq_nil_of_le (by omega)
      rw [e0] at p'
      exact .inl ⟨j2 (by omega), p' W' σ' (Ext.refl _) S' rs'⟩
  | dyn l k =>
    obtain ⟨a, ea, rfl⟩ := jr
    have hl1 : l < W1.n := by
      rw [S1.n]
      exact S1.lt l a ea
    refine ⟨fun i n σ' H' => ∃ W' h' s', W'.H = H' ∧ Ext W1 W' ∧ Sim X.K W' h' ∧ RS X.K W' s' σ' ∧ PstS X.K c D W' (forL (turnM g m) l n i s' h'),
      ⟨k, W1, h1, s, rfl, Ext.refl _, S1, rs.mono x1, p1⟩, ?_⟩
    rintro i n σ' H' ⟨W', h', s', rfl, x', S', rs', p'⟩
    cases n with
    | zero => exact p'.elim
    | succ n =>
      unfold forL at p'
      cases hl : h'[l]? with
      | none =>
        rw [hl] at p'
        exact p'.elim
      | some o =>
        rw [hl] at p'
        cases o with
        | dead => exact p'.elim
        | dK kvs => exact p'.elim
        | lst xs =>
          obtain ⟨a', ea'⟩ := S'.live l _ hl (by intro z; cases z)
          obtain rfl : a' = a := by
            rcases x'.agree l hl1 with q | q
            · rw [q, ea] at ea'
              exact (Option.some.inj ea').symm
            · rw [q] at ea'
              cases ea'
          obtain ⟨o2, e2, ro⟩ := S'.obj l a' ea'
          rw [hl] at e2
          cases e2
          obtain ⟨vs, hv, t⟩ := ro
          have hsq : SqL X.K W'.H a' vs := .inl (.inl hv)
          have p2 : PstS X.K c D W' (match xs[i]? with
            | none => some (.nx s' h')
            | some x => match turnM g m x s' h' with
              | some (.nx s1 h1) => forL (turnM g m) l n (i + 1) s1 h1
              | some (.cnt s1 h1) => forL (turnM g m) l n (i + 1) s1 h1
              | some (.brk s1 h1) => some (.nx s1 h1)
              | some (.ret v h1) => some (.ret v h1)
              | some (.ex e h1) => some (.ex e h1)
              | none => none) := p'
          cases hx : xs[i]? with
          | none =>
            rw [hx] at p2
            have hi : vs.length ≤ i := by
              rw [← t.length]
              exact List.getElem?_eq_none_iff.mp hx
            exact .inl ⟨⟨vs, hsq, hi⟩, p2 W' σ' (Ext.refl _) S' rs'⟩
          | some x =>
            rw [hx] at p2
            obtain ⟨v, hvi, rv⟩ := t.get hx
            refine .inr ⟨⟨vs, v, hsq, hvi⟩, fun σ2 H2 => ∃ W2 h2 s2, W2.H = H2 ∧ Ext W1 W2 ∧ Sim X.K W2 h2 ∧ RS X.K W2 s2 σ2 ∧ PstS X.K c D W2 (forL (turnM g m) l n (i + 1) s2 h2), fun σ2 H2 w => ⟨n, Nat.lt_succ_self _, w⟩, fun v2 H2 y => ?_⟩
            obtain ⟨rfl, y2⟩ := y
            have := y2 vs hsq
            rw [hvi] at this
            cases this
            unfold turnM at p2
            cases hgx : g x s' with
            | none =>
              simp only [hgx] at p2
              exact p2.elim
            | some s3 =>
              simp only [hgx] at p2
              refine ho W' s' s3 σ' _ v _ rs' rv hgx fun σ3 rs3 => ⟨W', h', s3, rfl, S', rs3, ?_⟩
              cases hm : m s3 h' with
              | none =>
                simp only [hm] at p2
                exact p2.elim
              | some r =>
                simp only [hm] at p2
                cases r with
                | nx s4 h4 => exact fun W4 σ4 x4 S4 rs4 => ⟨W4, h4, s4, rfl, x'.trans x4, S4, rs4, PstS.shift x4 p2⟩
                | cnt s4 h4 => exact fun W4 σ4 x4 S4 rs4 => ⟨W4, h4, s4, rfl, x'.trans x4, S4, rs4, PstS.shift x4 p2⟩
                | brk s4 h4 => exact p2
                | ret x4 h4 => exact p2
                | ex e4 h4 => exact p2
theorem s_while {cd : Expr} {mc : MM Bool} {m : MT} (n : Nat) (hp : PassesOwn (model X.prog X.w) X.A X.env X.xe) (hc : BM X c cd mc) (hb : SsM X c body m) : SM X c (.While cd body [] pos) (whlG mc m n) := ps_wk (ps_while hp hc hb) fun D σ H ⟨W, h, s, e, S, rs, p⟩ => by
  subst e
  refine ⟨fun k σ' H' => ∃ W' h' s', W'.H = H' ∧ Sim X.K W' h' ∧ RS X.K W' s' σ' ∧ PstS X.K c D W' (whlG mc m k s' h'), ⟨n, W, h, s, rfl, S, rs, p⟩, ?_⟩
  rintro k σ' H' ⟨W', h', s', rfl, S', rs', p'⟩
  cases k with
  | zero => exact p'.elim
  | succ k =>
    refine ⟨W', h', s', rfl, S', rs', p'.bnd fun W1 h1 b x1 S1 p1 => ?_⟩
    cases b with
    | false => exact p1 W1 σ' (Ext.refl _) S1 (rs'.mono x1)
    | true =>
      rw [if_pos rfl] at p1
      refine iteT (B := D.nx σ' W1.H) ⟨fun σ2 H2 => ∃ W2 h2 s2, W2.H = H2 ∧ Sim X.K W2 h2 ∧ RS X.K W2 s2 σ2 ∧ PstS X.K c D W2 (whlG mc m k s2 h2), fun σ2 H2 w => ⟨k, Nat.lt_succ_self _, w⟩, W1, h1, s', rfl, S1, rs'.mono x1, ?_⟩
      cases hm : m s' h1 with
      | none =>
        simp only [hm] at p1
        exact p1.elim
      | some r =>
        simp only [hm] at p1
        cases r with
        | nx s4 h4 => exact fun W4 σ4 x4 S4 rs4 => ⟨W4, h4, s4, rfl, S4, rs4, PstS.shift x4 p1⟩
        | cnt s4 h4 => exact fun W4 σ4 x4 S4 rs4 => ⟨W4, h4, s4, rfl, S4, rs4, PstS.shift x4 p1⟩
        | brk s4 h4 => exact p1
        | ret x4 h4 => exact p1
        | ex e4 h4 => exact p1
end
end Mi
set_option maxHeartbeats 2000000
/-! Mi: comprehensions, own defs called, what stands still. -/
namespace Mi
open PySem L2
/-! ### comprehensions -/
theorem set_comm {α : Type} {l : List α} {i j : Nat} {a b : α} (h : i ≠ j) : (l.set i a).set j b = (l.set j b).set i a := List.set_comm a b h
theorem wipe_set {σ : St} {i : Nat} {o : Option V} : ∀ {vs : List Nat}, i ∈ vs → L2.wipe (σ.set i o) vs = L2.wipe σ vs
  | [], h => by cases h
  | v :: vs, h => by
    show (L2.wipe (σ.set i o) vs).set v none = (L2.wipe σ vs).set v none
    have go : ∀ {vs : List Nat}, ¬ i ∈ vs → L2.wipe (σ.set i o) vs = (L2.wipe σ vs).set i o := fun {vs} => by
      induction vs with
      | nil => exact fun _ => rfl
      | cons w ws ih =>
        intro hn
        have h1 : ¬ i ∈ ws := fun z => hn (List.mem_cons_of_mem _ z)
        have h2 : i ≠ w := fun z => hn (by rw [z]; exact List.mem_cons_self ..)
        show (L2.wipe (σ.set i o) ws).set w none = ((L2.wipe σ ws).set w none).set i o
        rw [ih h1, set_comm h2]
    by_cases hm : i ∈ vs
    · rw [wipe_set hm]
    · rcases List.mem_cons.mp h with e | e
      · rw [go hm, e, List.set_set]
      · exact absurd e hm
theorem wipe_get {σ : St} {i : Nat} : ∀ {vs : List Nat}, (L2.wipe σ vs)[i]? = if i ∈ vs ∧ i < σ.length then some none else σ[i]?
  | [] => by
    show σ[i]? = _
    rw [if_neg (by simp)]
  | v :: vs => by
    show ((L2.wipe σ vs).set v none)[i]? = _
    by_cases hv : v = i
    · subst hv
      by_cases hl : v < σ.length
      · rw [List.getElem?_set_self (by rw [wipe_length]; exact hl), if_pos ⟨List.mem_cons_self .., hl⟩]
      · rw [if_neg (fun z => hl z.2), List.getElem?_eq_none (by rw [List.length_set, wipe_length]; omega), List.getElem?_eq_none (by omega)]
    · rw [List.getElem?_set_ne hv, wipe_get (vs := vs)]
      by_cases hm : i ∈ vs ∧ i < σ.length
      · rw [if_pos hm, if_pos ⟨List.mem_cons_of_mem _ hm.1, hm.2⟩]
      · rw [if_neg hm, if_neg fun z => hm ⟨(List.mem_cons.mp z.1).resolve_left fun y => hv y.symm, z.2⟩]
theorem wipe_wipe {σ : St} {vs : List Nat} : L2.wipe (L2.wipe σ vs) vs = L2.wipe σ vs := by
  apply List.ext_getElem?
  intro i
  rw [wipe_get, wipe_get, wipe_length]
  by_cases h : i ∈ vs ∧ i < σ.length
  · rw [if_pos h, if_pos h]
  · rw [if_neg h]
def lcS (g : MV → MS → Option MS) (cd : MM Bool) (el : ME) (s0 : MS) : List MV → List MV → MH → Res (List MV)
  | [], acc, h => ok acc h
  | x :: xs, acc, h => match g x s0 with
    | none => none
    | some s1 => (cd s1 h).bnd fun b h1 => if b = true then (el s1 h1).bnd fun y h2 => if acc.length < lim then lcS g cd el s0 xs (acc ++ [y]) h2 else none else lcS g cd el s0 xs acc h1
def lcL (g : MV → MS → Option MS) (cd : MM Bool) (el : ME) (s0 : MS) (l : Nat) : Nat → Nat → List MV → MH → Res (List MV)
  | 0, _, _, _ => none
  | n + 1, i, acc, h => match h[l]? with
    | some (.lst zs) => match zs[i]? with
      | none => ok acc h
      | some x => match g x s0 with
        | none => none
        | some s1 => (cd s1 h).bnd fun b h1 => if b = true then (el s1 h1).bnd fun y h2 => if acc.length < lim then lcL g cd el s0 l n (i + 1) (acc ++ [y]) h2 else none else lcL g cd el s0 l n (i + 1) acc h1
    | _ => none
@[simp ↓] def lcM (mi : MM MIter) (vs : List Nat) (g : MV → MS → Option MS) (cd : MM Bool) (el : ME) : MM (List MV) := fun s h => (mi s h).bnd fun it h1 => match it with
  | .st its => lcS g cd el (wipeM s vs) its [] h1
  | .dyn l n => lcL g cd el (wipeM s vs) l n 0 [] h1
section
variable {K : PySem.W.Frag} {c : XC} {α β : Type}
theorem Pst.bnd2 {C1 : Wd → α → Prop} {C2 : Wd → β → Prop} {W W0 : Wd} {r : Res α} {k : α → MH → Res β} (p : Pst K c C2 W0 (r.bnd k)) (x0 : Ext W0 W)
    (i : ∀ W1 h1 a, Ext W W1 → Sim K W1 h1 → Pst K c C2 W0 (k a h1) → C1 W1 a) : Pst K c C1 W r := by
  match r, p with
  | some (.ok a h), p => exact fun W2 x2 s => i W2 h a x2 s p
  | some (.ex e h), p => exact PX.shift x0 p
/-- a comprehension's target -/
def TgC (K : PySem.W.Frag) (t : TG) (g : MV → MS → Option MS) (vs : List Nat) : Prop := ∀ (W : Wd) (s s' : MS) (σ : St) (x : MV) (v : V) (Q : St → Hp → Prop), RS K W s σ → RV K W x v → g x s = some s' → (∀ σ', RS K W s' σ' → L2.wipe σ' vs = L2.wipe σ vs → Q σ' W.H) → t v σ W.H Q
theorem tc_one {i : Nat} {vs : List Nat} (hi : i ∈ vs) : TgC K (gName i) (one i) vs := fun W s s' σ x v Q rs r e q => by
  cases e
  exact q _ (rs.set r i) (wipe_set hi)
theorem tc_all {vs : List Nat} : ∀ (is : List Nat), (∀ i ∈ is, i ∈ vs) → ∀ (W : Wd) (s s' : MS) (σ : St) (xs : List MV) (ws : List V) (Q : St → Hp → Prop), RS K W s σ → RVs K W xs ws → putAll is xs s = some s' →
    (∀ σ', RS K W s' σ' → L2.wipe σ' vs = L2.wipe σ vs → Q σ' W.H) → gNames is ws σ W.H Q
  | [], _, W, s, s', σ, [], _, Q, rs, .nil, e, q => by
    cases e
    exact ⟨rfl, q σ rs rfl⟩
  | i :: is, hm, W, s, s', σ, x :: xs, _, Q, rs, .cons r t, e, q => ⟨_, _, rfl, tc_all is (fun j hj => hm j (List.mem_cons_of_mem _ hj)) W _ s' _ xs _ Q (rs.set r i) t e fun σ' rs' hw => q σ' rs' (hw.trans (wipe_set (hm i (List.mem_cons_self ..))))⟩
  | [], _, _, _, _, _, _ :: _, _, _, _, _, e, _ => by cases e
  | _ :: _, _, _, _, _, _, [], _, _, _, _, e, _ => by cases e
theorem tc_tup {vs : List Nat} (is : List Nat) (hm : ∀ i ∈ is, i ∈ vs) : TgC K (gTup K is.length (gNames is)) (unp is) vs := fun W s s' σ x v Q rs r e q => by
  cases x <;> first | (cases e; done) | skip
  rename_i xs
  obtain ⟨a, ws, rfl, hq, t⟩ := tup_sq r
  exact ⟨a, ws, rfl, hq, by rw [← t.length]; exact putAll_len e, tc_all is hm W s s' σ xs ws Q rs t e q⟩
/-- one turn of a comprehension -/
theorem lc_turn {W0 W : Wd} {h : MH} {s0 : MS} {σ : St} {vs : List Nat} {D : Addr} {acc : List MV} {aV : List V} {g : MV → MS → Option MS} {cd : MM Bool} {el : ME} {t : TG} {x : MV} {v : V} {C : Wd → List MV → Prop} {Nx : Hp → Prop}
    {k : List MV → MH → Res (List MV)} (ho : TgC K t g vs) (x0 : Ext W0 W) (S : Sim K W h) (hD0 : W0.H D = none) (hh : W.hid D) (hD : W.H D = some (.lst aV)) (ra : RVs K W acc aV) (rs : RS K W0 s0 (L2.wipe σ vs)) (r : RV K W x v)
    (p : Pst K c C W0 (match g x s0 with
      | none => none
      | some s1 => (cd s1 h).bnd fun b h1 => if b = true then (el s1 h1).bnd fun y h2 => if acc.length < lim then k (acc ++ [y]) h2 else none else k acc h1))
    (nx : ∀ W' h' acc' aV', Ext W0 W' → Sim K W' h' → W'.hid D → W'.H D = some (.lst aV') → RVs K W' acc' aV' → Pst K c C W0 (k acc' h') → Nx W'.H) :
    t v (L2.wipe σ vs) W.H fun σ2 H2 => L2.wipe σ2 vs = L2.wipe σ vs ∧ tMB K c cd σ2 H2 fun b H3 => if b = true then tM K c el σ2 H3 fun y H4 => ∃ acc, H4 D = some (.lst acc) ∧ acc.length < sizeLine ∧ Nx (upd H4 D (.lst (acc ++ [y]))) else Nx H3 := by
  cases hg : g x s0 with
  | none =>
    rw [hg] at p
    exact p.elim
  | some s1 =>
    rw [hg] at p
    refine ho W s0 s1 _ x v _ (rs.mono x0) r hg fun σ2 rs2 hw => ⟨hw.trans wipe_wipe, W, h, s1, rfl, S, rs2, ?_⟩
    refine Pst.bnd2 p x0 fun W1 h1 b x1 S1 p1 => ?_
    obtain ⟨hD1, hh1⟩ := x1.hidf D _ hh hD
    cases b with
    | false => exact nx W1 h1 acc aV (x0.trans x1) S1 hh1 hD1 (ra.mono x1) p1
    | true =>
      refine iteT (B := Nx W1.H) ⟨W1, h1, s1, rfl, S1, rs2.mono x1, ?_⟩
      rw [if_pos rfl] at p1
      refine Pst.bnd2 p1 (x0.trans x1) fun W2 h2 y x2 S2 p2 u r2 => ?_
      obtain ⟨hD2, hh2⟩ := x2.hidf D _ hh1 hD1
      by_cases hl : acc.length < lim
      · rw [if_pos hl] at p2
        refine ⟨aV, hD2, Nat.lt_of_lt_of_le (by rw [← ra.length]; exact hl) (lim_line (Nat.le_refl _)), ?_⟩
        exact nx (W2.wr D (.lst (aV ++ [u]))) h2 (acc ++ [y]) (aV ++ [u]) (Ext.wrh hh2 S2 ((x0.trans x1).trans x2) hD0) (S2.wrh hh2) hh2 upd_same ((((ra.mono x1).mono x2).append (.one r2)).wrh hh2) p2
      · rw [if_neg hl] at p2
        exact p2.elim
end
section
variable {X : Cx} {c : XC}
theorem lc_of {K : PySem.W.Frag} {vs : List Nat} {mi : MM MIter} {t : TG} {g : MV → MS → Option MS} {cd : MM Bool} {el : ME} (ho : TgC K t g vs) {σ : St} {H : Hp} {Q : VK} (q : tML K c (lcM mi vs g cd el) σ H Q) : tLc (tMI K c mi) t (tMB K c cd) (tM K c el) vs σ H Q := by
  obtain ⟨W, h, s, e, S, rs, p⟩ := q
  subst e
  refine ⟨W, h, s, rfl, S, rs, p.bnd fun W1 h1 it x1 S1 p1 J jr D hD => ?_⟩
  have rs1 : RS K W1 (wipeM s vs) (L2.wipe σ vs) := (rs.mono x1).wipe _
  have xh : Ext W1 (W1.hide D (.lst [])) := Ext.hide S1 hD
  have Sh : Sim K (W1.hide D (.lst [])) h1 := S1.hide hD
  have fin : ∀ (W' : Wd) (h' : MH) (acc : List MV) (aV : List V), Ext W1 W' → Sim K W' h' → W'.hid D → W'.H D = some (.lst aV) → RVs K W' acc aV → Pst K c (CL K Q) W1 (ok acc h') → Q (.ref D) W'.H := fun W' h' acc aV x' S' hh' hD' ra p' => by
    have q := p' (W'.bare D) (x'.bare hD) (S'.bare hh') aV D (ra.bare hh') (if_pos rfl)
    rw [Wd.bare_upd hD'] at q
    exact q
  cases it with
  | st its =>
    refine ⟨fun i n H' => n = its.length - i ∧ i ≤ its.length ∧ ∃ W' h' acc aV, W'.H = H' ∧ Ext W1 W' ∧ Sim K W' h' ∧ W'.hid D ∧ W'.H D = some (.lst aV) ∧ RVs K W' acc aV ∧ Pst K c (CL K Q) W1 (lcS g cd el (wipeM s vs) (its.drop i) acc h'),
      ⟨its.length, rfl, Nat.zero_le _, W1.hide D (.lst []), h1, [], [], rfl, xh, Sh, .inl rfl, upd_same, .nil, p1⟩, ?_⟩
    rintro i n H' ⟨hn, hle, W', h', acc, aV, rfl, x', S', hh', hD', ra, p'⟩
    obtain ⟨j1, j2⟩ := jr i W' h' x' S'
    by_cases hi : i < its.length
    · obtain ⟨jg, jy⟩ := j1 its[i] (List.getElem?_eq_getElem hi)
      rw [List.drop_eq_getElem_cons hi] at p'
      refine .inr ⟨jg, fun H2 => ∃ W2 h2 acc2 aV2, W2.H = H2 ∧ Ext W1 W2 ∧ Sim K W2 h2 ∧ W2.hid D ∧ W2.H D = some (.lst aV2) ∧ RVs K W2 acc2 aV2 ∧ Pst K c (CL K Q) W1 (lcS g cd el (wipeM s vs) (its.drop (i + 1)) acc2 h2),
        fun H2 w => ⟨its.length - (i + 1), by omega, rfl, by omega, w⟩, fun v H2 y => ?_⟩
      obtain ⟨W2, rfl, x2, S2, r2⟩ := jy v H2 y
      obtain ⟨hD2, hh2⟩ := x2.hidf D _ hh' hD'
      unfold lcS at p'
      exact lc_turn ho (x'.trans x2) S2 hD hh2 hD2 (ra.mono x2) rs1 r2 p' fun W3 h3 acc3 aV3 x3 S3 hh3 hD3 ra3 p3 => ⟨W3, h3, acc3, aV3, rfl, x3, S3, hh3, hD3, ra3, p3⟩
    · have e0 : its.drop i = [] := List.drop_eq_nil_of_le (by omega)
      rw [e0] at p'
      exact .inl ⟨j2 (by omega), fin W' h' acc aV x' S' hh' hD' ra p'⟩
  | dyn l k =>
    obtain ⟨a, ea, rfl⟩ := jr
    have hl1 : l < W1.n := by
      rw [S1.n]
      exact S1.lt l a ea
    refine ⟨fun i n H' => ∃ W' h' acc aV, W'.H = H' ∧ Ext W1 W' ∧ Sim K W' h' ∧ W'.hid D ∧ W'.H D = some (.lst aV) ∧ RVs K W' acc aV ∧ Pst K c (CL K Q) W1 (lcL g cd el (wipeM s vs) l n i acc h'),
      ⟨k, W1.hide D (.lst []), h1, [], [], rfl, xh, Sh, .inl rfl, upd_same, .nil, p1⟩, ?_⟩
    rintro i n H' ⟨W', h', acc, aV, rfl, x', S', hh', hD', ra, p'⟩
    cases n with
    | zero => exact p'.elim
    | succ n =>
      unfold lcL at p'
      cases hl : h'[l]? with
      | none =>
        rw [hl] at p'
        exact p'.elim
      | some o =>
        rw [hl] at p'
        cases o with
        | dead => exact p'.elim
        | dK kvs => exact p'.elim
        | lst zs =>
          obtain ⟨a', ea'⟩ := S'.live l _ hl (by intro z; cases z)
          obtain rfl : a' = a := by
            rcases x'.agree l hl1 with q | q
            · rw [q, ea] at ea'
              exact (Option.some.inj ea').symm
            · rw [q] at ea'
              cases ea'
          obtain ⟨o2, e2, ro⟩ := S'.obj l a' ea'
          rw [hl] at e2
          cases e2
          obtain ⟨ws, hv, t⟩ := ro
          have hsq : SqL K W'.H a' ws := .inl (.inl hv)
          dsimp only at p'
          cases hx : zs[i]? with
          | none =>
            rw [hx] at p'
            have hi : ws.length ≤ i := by
              rw [← t.length]
              exact List.getElem?_eq_none_iff.mp hx
            exact .inl ⟨⟨ws, hsq, hi⟩, fin W' h' acc aV x' S' hh' hD' ra p'⟩
          | some x =>
            rw [hx] at p'
            obtain ⟨v, hvi, rv⟩ := t.get hx
            refine .inr ⟨⟨ws, v, hsq, hvi⟩, fun H2 => ∃ W2 h2 acc2 aV2, W2.H = H2 ∧ Ext W1 W2 ∧ Sim K W2 h2 ∧ W2.hid D ∧ W2.H D = some (.lst aV2) ∧ RVs K W2 acc2 aV2 ∧ Pst K c (CL K Q) W1 (lcL g cd el (wipeM s vs) l n (i + 1) acc2 h2),
              fun H2 w => ⟨n, Nat.lt_succ_self _, w⟩, fun v2 H2 y => ?_⟩
            obtain ⟨rfl, y2⟩ := y
            have := y2 ws hsq
            rw [hvi] at this
            cases this
            exact lc_turn ho x' S' hD hh' hD' ra rs1 rv p' fun W3 h3 acc3 aV3 x3 S3 hh3 hD3 ra3 p3 => ⟨W3, h3, acc3, aV3, rfl, x3, S3, hh3, hD3, ra3, p3⟩
theorem lm_lc {elt tg iter : Expr} {ifs : List Expr} {scope : Scope} {own : List (Str × Nat)} {pos : Pos} {mi : MM MIter} {t : TG} {g : MV → MS → Option MS} {cd : MM Bool} {el : ME} (ho : TgC X.K t g (own.map (·.2)))
    (h : PE X (.ListComp elt [⟨tg, iter, ifs, 0⟩] scope pos) (tLc (tMI X.K c mi) t (tMB X.K c cd) (tM X.K c el) (own.map (·.2)))) : LM X c (.ListComp elt [⟨tg, iter, ifs, 0⟩] scope pos) (lcM mi (own.map (·.2)) g cd el) := pe_wk h fun _ _ _ q => lc_of ho q
theorem s_lcF {elt tg iter : Expr} {ifs : List Expr} {scope : Scope} {own : List (Str × Nat)} {pos spos py : Pos} {y : Str} {i : Nat} {mi : MM MIter} {t : TG} {g : MV → MS → Option MS} {cd : MM Bool} {el : ME} (ho : TgC X.K t g (own.map (·.2)))
    (h : PS X (.Assign [.Name y py] (.ListComp elt [⟨tg, iter, ifs, 0⟩] scope pos) spos) (tAsg (tLc (tMI X.K c mi) t (tMB X.K c cd) (tM X.K c el) (own.map (·.2))) (gName i))) : SM X c (.Assign [.Name y py] (.ListComp elt [⟨tg, iter, ifs, 0⟩] scope pos) spos) (setS i (flsM (lcM mi (own.map (·.2)) g cd el))) :=
  ps_wk h fun D σ H ⟨W, h, s, e, S, rs, p⟩ => by
    subst e
    exact lc_of ho (fls_of ⟨W, h, s, rfl, S, rs, p.bnd fun W1 h1 y x1 S1 p1 v r1 => p1 W1 _ (Ext.refl _) S1 ((rs.mono x1).set r1 i)⟩)
theorem s_lcR {elt tg iter : Expr} {ifs : List Expr} {scope : Scope} {own : List (Str × Nat)} {pos spos py : Pos} {y : Str} {i : Nat} {mi : MM MIter} {t : TG} {g : MV → MS → Option MS} {cd : MM Bool} {el : ME} (ho : TgC X.K t g (own.map (·.2)))
    (h : PS X (.Assign [.Name y py] (.ListComp elt [⟨tg, iter, ifs, 0⟩] scope pos) spos) (tAsg (tLc (tMI X.K c mi) t (tMB X.K c cd) (tM X.K c el) (own.map (·.2))) (gName i))) : SM X c (.Assign [.Name y py] (.ListComp elt [⟨tg, iter, ifs, 0⟩] scope pos) spos) (setS i (refM (lcM mi (own.map (·.2)) g cd el))) :=
  ps_wk h fun D σ H ⟨W, h, s, e, S, rs, p⟩ => by
    subst e
    exact lc_of ho (ref_of ⟨W, h, s, rfl, S, rs, p.bnd fun W1 h1 y x1 S1 p1 v r1 => p1 W1 _ (Ext.refl _) S1 ((rs.mono x1).set r1 i)⟩)
theorem pts_M {m : MM Bool} {cx : Expr} (h : BM X c cx m) : PTs X [cx] (tMB X.K c m) := pts_one h
theorem pts_y : PTs X [] (tMB X.K c yesT) := ⟨fun pins s σ H Q I h => pts_nil.run pins s σ H Q I (by
  obtain ⟨W, h, s, e, S, rs, p⟩ := h
  subst e
  exact p W (Ext.refl _) S)⟩
end
/-! ### own defs -/
abbrev MF := List MV → MH → Res MV
@[simp ↓] def noex (r : Res MV) : Res MV := match r with
  | some (.ex _ _) => none
  | r => r
theorem noex_is {a : MV} {h : MH} : noex (ok a h) = ok a h := rfl
/-- a def's mirror, by its body's: np parameters, n slots -/
@[simp ↓] def defM (np n : Nat) (m : MT) : MF := fun xs h => if xs.length = np then (match m (xs.map some ++ List.replicate (n - np) none) h with
  | some (.nx _ h') => ok .non h'
  | some (.ret x h') => ok x h'
  | some (.ex e h') => some (.ex e h')
  | _ => none) else none
/-- its promise -/
def spM (K : PySem.W.Frag) (mg : Str → Option Value) (np : Nat) (f : MF) : Sp := fun vs H Q E => ∃ W h xs, W.H = H ∧ Sim K W h ∧ RVs K W xs vs ∧ xs.length = np ∧ Pst K ⟨mg, E⟩ (CV K Q) W (f xs h)
@[simp ↓] def callM (f : MF) (ds : List MV) (a : MM (List MV)) : ME := fun s h => (a s h).bnd fun xs h1 => noex (f (xs ++ ds) h1)
section
variable {P : Program} {w : World} {K : PySem.W.Frag} {mg : Str → Option Value} {base : Heap}
theorem body_ok {N : List Str} {vs : List V} {E : XK} {np : Nat} {m : MT} {Q : VK} {H : Hp} (q : spM K mg np (defM np N.length m) vs H Q E) : tS K ⟨mg, E⟩ m { nx := fun _ H' => Q .non H', rt := Q } (start N vs) H := by
  obtain ⟨W, h, xs, rfl, S, r, hl, p⟩ := q
  unfold defM at p
  rw [if_pos hl] at p
  refine ⟨W, h, xs.map some ++ List.replicate (N.length - np) none, rfl, S, ?_, ?_⟩
  · unfold L2.start
    rw [← r.length, hl]
    exact RS.start r _
  · cases hm : m (xs.map some ++ List.replicate (N.length - np) none) h with
    | none =>
      rw [hm] at p
      exact p.elim
    | some o =>
      rw [hm] at p
      cases o with
      | nx s1 h1 => exact fun W1 σ1 x1 S1 rs1 => p W1 x1 S1 _ .non
      | ret x h1 => exact fun W1 v x1 S1 r1 => p W1 x1 S1 v r1
      | brk s1 h1 => exact p.elim
      | cnt s1 h1 => exact p.elim
      | ex e h1 => exact p
/-- a def of the text, by the mirror of its body; no exception leaves it -/
theorem fn_mir {x qual : Str} {st : Stmt} {f : Addr} {fd : FuncData} {N ps : List Str} {k : Nat} {m : MT} (F : Fun K x qual st f fd) (S : FnScope N ps (defScope st))
    (hb : ∀ (cdv : Value) (A : Around) (outer : List Env) (s : Shared) (H : Hp) (E : XK), Room k (A.deeper (PyProof.Rows.envOfC qual (defScope st) s.heap.objs.size f cdv)) → SsM (cxOf CX0 P w K mg base N qual (defScope st) f cdv A outer s H E).nox ⟨mg, E⟩ (defBody st) m) :
    FnOk P w K mg base CX0 (k + 1) f fd ps (spM K mg ps.length (defM ps.length N.length m)) := by
  refine F.ok S (fun vs H Q E h => ?_) (fun cdv A outer s H vs Q E hr h => ?_)
  · obtain ⟨W, h, xs, _, _, r, hl, _⟩ := h
    rw [← r.length, hl]
  · exact ⟨_, hb cdv A outer s H E hr, body_ok h⟩
theorem fnd_mir {x qual : Str} {params : Arguments} {body : List Stmt} {scope : Scope} {dvs : List V} {kws : List (Str × V)} {f : Addr} {fd : FuncData} {N ps : List Str} {k : Nat} {m : MT} (F : FunD K x qual params body scope dvs kws f fd) (S : FnScope N ps scope)
    (hb : ∀ (cdv : Value) (A : Around) (outer : List Env) (s : Shared) (H : Hp) (E : XK), Room k (A.deeper (PyProof.Rows.envOfC qual scope s.heap.objs.size f cdv)) → SsM (cxOf CX0 P w K mg base N qual scope f cdv A outer s H E) ⟨mg, E⟩ body m) :
    FnOk P w K mg base CX0 (k + 1) f fd ps (spM K mg ps.length (defM ps.length N.length m)) := by
  refine F.ok S (fun vs H Q E h => ?_) (fun cdv A outer s H vs Q E hr h => ?_)
  · obtain ⟨W, h, xs, _, _, r, hl, _⟩ := h
    rw [← r.length, hl]
  · exact ⟨_, hb cdv A outer s H E hr, body_ok h⟩
theorem noex_ok {c c' : XC} {C : Wd → MV → Prop} {W : Wd} {r : Res MV} (p : Pst K c C W (noex r)) : Pst K c' C W r := by
  unfold noex at p
  match r, p with
  | some (.ok a h), p => exact p
end
section
variable {X : Cx} {c : XC} {k : Nat} {f : Addr} {fd : FuncData} {ps : List Str} {ds : List Value} {dvs : List V} {dms : List MV} {x : Str} {p pos : Pos} {e : Expr} {es : List Expr} {m : MM (List MV)} {np : Nat} {fM : MF}
theorem tCall_of {K : PySem.W.Frag} {mg : Str → Option Value} (hd : ∀ W, RVs K W dms dvs) (hn : ∀ xs h, (fM xs h).isSome = true → xs.length = np) {σ : St} {H : Hp} {Q : VK} (q : tM K c (callM fM dms m) σ H Q) : tCall (spM K mg np fM) dvs E0 (tMA K c m) σ H Q := by
  obtain ⟨W, h, s, e, S, rs, p⟩ := q
  subst e
  refine ⟨W, h, s, rfl, S, rs, p.bnd fun W1 h1 xs x1 S1 p1 vs r1 => ?_⟩
  refine ⟨W1, h1, xs ++ dms, rfl, S1, r1.append (hd W1), ?_, noex_ok p1⟩
  cases hf : fM (xs ++ dms) h1 with
  | none =>
    rw [hf] at p1
    exact p1.elim
  | some o => exact hn _ h1 (by rw [hf]; rfl)
theorem em_call (F : FnOk X.prog X.w X.K X.mg X.base CX0 k f fd ps (spM X.K X.mg np fM)) (hn : ∀ xs h, (fM xs h).isSome = true → xs.length = np) (hr : Room k X.A) (hg : Gl X x) (hm : X.mg x = some (.ref f)) (hk : PySem.W.keepIn X.K (.ref f) = true) (hb : Binds X.K fd ps ds) (hd : Vals dvs ds) (hd2 : ∀ W, RVs X.K W dms dvs)
    (ha : AM X c (e :: es) m) (hdb : (x == ("__debug__" : Str)) = false := by decide) (he : starEach (e :: es) X.env = (false, eval e X.env) :: starEach es X.env := by rfl) (hpl : (backTo pos (starEach es X.env)).any (·.1) = false := by rfl) :
    EM X c (.Call (.Name x p) (e :: es) [] pos) (callM fM dms m) := pe_wk (pe_call F hr hg hm hk hb hd pass0 ha hdb he hpl) fun σ H Q q => tCall_of hd2 hn q
theorem em_call0 (F : FnOk X.prog X.w X.K X.mg X.base CX0 k f fd ps (spM X.K X.mg np fM)) (hn : ∀ xs h, (fM xs h).isSome = true → xs.length = np) (hr : Room k X.A) (hg : Gl X x) (hm : X.mg x = some (.ref f)) (hk : PySem.W.keepIn X.K (.ref f) = true) (hb : Binds X.K fd ps ds) (hd : Vals dvs ds) (hd2 : ∀ W, RVs X.K W dms dvs)
    (hdb : (x == ("__debug__" : Str)) = false := by decide) : EM X c (.Call (.Name x p) [] [] pos) (callM fM dms nilA) := pe_wk (pe_call0 F hr hg hm hk hb hd pass0 hdb) fun σ H Q ⟨W, h, s, e, S, rs, p⟩ => by
  subst e
  show spM X.K X.mg np fM ([] ++ dvs) W.H Q E0
  refine ⟨W, h, dms, rfl, S, hd2 W, ?_, noex_ok p⟩
  have p' : Pst X.K c (CV X.K Q) W (noex (fM ([] ++ dms) h)) := p
  cases hf : fM dms h with
  | none =>
    rw [List.nil_append, hf] at p'
    exact p'.elim
  | some o => exact hn _ h (by rw [hf]; rfl)
theorem defM_len {n : Nat} {m : MT} {xs : List MV} {h : MH} (e : (defM np n m xs h).isSome = true) : xs.length = np := by
  unfold defM at e
  by_cases q : xs.length = np
  · exact q
  · rw [if_neg q] at e
    cases e
/-! keywords -/
def pick {α : Type} (is : List Nat) (l : List α) : List α := is.filterMap fun i => l[i]?
theorem RVs.pick {K : PySem.W.Frag} {W : Wd} {xs : List MV} {vs : List V} (r : RVs K W xs vs) : ∀ is : List Nat, RVs K W (Mi.pick is xs) (Mi.pick is vs)
  | [] => .nil
  | i :: is => by
    have ih := RVs.pick r is
    unfold Mi.pick at ih ⊢
    rw [List.filterMap_cons, List.filterMap_cons]
    cases hx : xs[i]? with
    | none =>
      have hv : vs[i]? = none := List.getElem?_eq_none (by rw [← r.length]; exact List.getElem?_eq_none_iff.mp hx)
      rw [hv]
      exact ih
    | some y =>
      obtain ⟨v, hv, rv⟩ := r.get hx
      rw [hv]
      exact .cons rv ih
theorem vals_pick {xs : List V} {us : List Value} (r : Vals xs us) : ∀ is : List Nat, Vals (Mi.pick is xs) (Mi.pick is us)
  | [] => .nil
  | i :: is => by
    have ih := vals_pick r is
    unfold Mi.pick at ih ⊢
    rw [List.filterMap_cons, List.filterMap_cons]
    cases hx : xs[i]? with
    | none =>
      rw [r.none_of hx]
      exact ih
    | some y =>
      obtain ⟨v, hv, rv⟩ := r.get hx
      rw [hv]
      exact .cons rv ih
@[simp ↓] def callKM (f : MF) (n k : Nat) (is : List Nat) (ds : List MV) (a kw : MM (List MV)) : ME := fun s h => (a s h).bnd fun xs h1 => (kw s h1).bnd fun zs h2 => if xs.length = n ∧ zs.length = k then noex (f (pick is (xs ++ zs ++ ds)) h2) else none
abbrev KM (X : Cx) (c : XC) (kws : List Keyword) (m : MM (List MV)) : Prop := PK X kws (tMA X.K c m)
theorem pk_wk {kws : List Keyword} {t t' : TA} (h : PK X kws t) (w : ∀ σ H Q, t' σ H Q → t σ H Q) : PK X kws t' := ⟨fun po pins s σ H Q I q => h.run po pins s σ H Q I (w _ _ _ q)⟩
theorem km_nil : KM X c [] nilA := pk_wk pk_nil fun σ H Q ⟨W, h, s, e, S, rs, p⟩ => by
  subst e
  exact p W (Ext.refl W) S [] .nil
theorem km_cons {ma : ME} {mr : MM (List MV)} {nm : Option Str} {kpos : Pos} {kws : List Keyword} (ha : EM X c e ma) (hr : KM X c kws mr) : KM X c (⟨nm, e, kpos⟩ :: kws) (consA ma mr) :=
  pk_wk (pk_cons ha hr) fun σ H Q ⟨W, h, s, e, S, rs, p⟩ => by
    subst e
    refine ⟨W, h, s, rfl, S, rs, p.bnd fun W1 h1 x x1 S1 p1 v r1 => ?_⟩
    exact ⟨W1, h1, s, rfl, S1, rs.mono x1, p1.bnd fun W2 h2 xs x2 S2 p2 vs r2 => p2 W2 (Ext.refl _) S2 _ (.cons (r1.mono x2) r2)⟩
/-- f(k = v, ..): keywords alone -/
theorem pe_kw0 {ks : List Str} {sp : Sp} {kws : List Keyword} {tk : TA} {g : List Value → List Value → List Value} {gV : List V → List V → List V} (F : FnOk X.prog X.w X.K X.mg X.base CX0 k f fd ps sp) (hr : Room k X.A) (hg : Gl X x) (hm : X.mg x = some (.ref f)) (hk : PySem.W.keepIn X.K (.ref f) = true)
    (hb : KBn X.K fd ps 0 ks g gV) (hkw : PK X kws tk) (hall : (backToKw pos (keywordEach kws X.env)).all (·.1.isSome) = true := by rfl) (hks : (backToKw pos (keywordEach kws X.env)).filterMap (·.1) = ks := by rfl)
    (hdb : (x == ("__debug__" : Str)) = false := by decide) (hpl : ((backTo pos (starEach [] X.env)).any (·.1) || (backToKw pos (keywordEach kws X.env)).any (·.1.isNone)) = false := by rfl) :
    PE X (.Call (.Name x p) [] kws pos) (tCallN 0 ks.length sp gV E0 tNil tk) := by
  refine ⟨fun pins s σ H Q I h => wpAny_Call_Name_kw (ld_glob I hg hm ?_ hdb)⟩
  refine PySem.W.callWith_KW0 (h₀ := X.base) I.ok.mod.kin hk hall (thn (hkw.run pos pins s σ H _ I h) fun ws s2 ⟨zs, H2, I2, rz, l1, l2, q2⟩ => ⟨I2.kIn, ?_⟩) hpl
  rw [hks]
  exact run_fnN (us := []) F hr hb pass0 I2 .nil rz l1 l2 q2
theorem em_callK {kk : Nat} {ks : List Str} {kws : List Keyword} {mk : MM (List MV)} {n : Nat} {is : List Nat} {g : List Value → List Value → List Value} (F : FnOk X.prog X.w X.K X.mg X.base CX0 k f fd ps (spM X.K X.mg np fM)) (hn : ∀ xs h, (fM xs h).isSome = true → xs.length = np) (hr : Room k X.A) (hg : Gl X x) (hm : X.mg x = some (.ref f))
    (hk : PySem.W.keepIn X.K (.ref f) = true) (hb : KBn X.K fd ps n ks g (fun vs zs => pick is (vs ++ zs ++ dvs))) (hd2 : ∀ W, RVs X.K W dms dvs) (ha : AM X c (e :: es) m) (hkw : KM X c kws mk) (hkk : ks.length = kk := by rfl) (hall : (backToKw pos (keywordEach kws X.env)).all (·.1.isSome) = true := by rfl) (hks : (backToKw pos (keywordEach kws X.env)).filterMap (·.1) = ks := by rfl)
    (hdb : (x == ("__debug__" : Str)) = false := by decide) (he : starEach (e :: es) X.env = (false, eval e X.env) :: starEach es X.env := by rfl)
    (hpl : ((backTo pos (starEach (e :: es) X.env)).any (·.1) || (backToKw pos (keywordEach kws X.env)).any (·.1.isNone)) = false := by rfl) :
    EM X c (.Call (.Name x p) (e :: es) kws pos) (callKM fM n kk is dms m mk) := pe_wk (pe_callN F hr hg hm hk hb pass0 ha hkw hall hks hdb he hpl) fun σ H Q ⟨W, h, s, e, S, rs, p⟩ => by
  subst e
  subst hkk
  refine ⟨W, h, s, rfl, S, rs, p.bnd fun W1 h1 xs x1 S1 p1 vs r1 => ?_⟩
  refine ⟨W1, h1, s, rfl, S1, rs.mono x1, p1.bnd fun W2 h2 zs x2 S2 p2 ws r2 => ?_⟩
  by_cases q : xs.length = n ∧ zs.length = ks.length
  · rw [if_pos q] at p2
    refine ⟨by rw [← r1.length]; exact q.1, by rw [← r2.length]; exact q.2, W2, h2, _, rfl, S2, (((r1.mono x2).append r2).append (hd2 W2)).pick is, ?_, noex_ok p2⟩
    cases hf : fM (pick is (xs ++ zs ++ dms)) h2 with
    | none =>
      rw [hf] at p2
      exact p2.elim
    | some o => exact hn _ h2 (by rw [hf]; rfl)
  · rw [if_neg q] at p2
    exact p2.elim
theorem em_callK0 {kk : Nat} {ks : List Str} {kws : List Keyword} {mk : MM (List MV)} {is : List Nat} {g : List Value → List Value → List Value} (F : FnOk X.prog X.w X.K X.mg X.base CX0 k f fd ps (spM X.K X.mg np fM)) (hn : ∀ xs h, (fM xs h).isSome = true → xs.length = np) (hr : Room k X.A) (hg : Gl X x) (hm : X.mg x = some (.ref f))
    (hk : PySem.W.keepIn X.K (.ref f) = true) (hb : KBn X.K fd ps 0 ks g (fun vs zs => pick is (vs ++ zs ++ dvs))) (hd2 : ∀ W, RVs X.K W dms dvs) (hkw : KM X c kws mk) (hkk : ks.length = kk := by rfl) (hall : (backToKw pos (keywordEach kws X.env)).all (·.1.isSome) = true := by rfl) (hks : (backToKw pos (keywordEach kws X.env)).filterMap (·.1) = ks := by rfl)
    (hdb : (x == ("__debug__" : Str)) = false := by decide) (hpl : ((backTo pos (starEach [] X.env)).any (·.1) || (backToKw pos (keywordEach kws X.env)).any (·.1.isNone)) = false := by rfl) :
    EM X c (.Call (.Name x p) [] kws pos) (callKM fM 0 kk is dms nilA mk) := pe_wk (pe_kw0 F hr hg hm hk hb hkw hall hks hdb hpl) fun σ H Q ⟨W, h, s, e, S, rs, p⟩ => by
  subst e
  subst hkk
  have p' : Pst X.K c (CV X.K Q) W ((mk s h).bnd fun zs h2 => if ([] : List MV).length = 0 ∧ zs.length = ks.length then noex (fM (pick is ([] ++ zs ++ dms)) h2) else none) := p
  refine ⟨W, h, s, rfl, S, rs, p'.bnd fun W2 h2 zs x2 S2 p2 ws r2 => ?_⟩
  by_cases q : ([] : List MV).length = 0 ∧ zs.length = ks.length
  · rw [if_pos q] at p2
    refine ⟨rfl, by rw [← r2.length]; exact q.2, W2, h2, _, rfl, S2, (((RVs.nil).append r2).append (hd2 W2)).pick is, ?_, noex_ok p2⟩
    cases hf : fM (pick is ([] ++ zs ++ dms)) h2 with
    | none =>
      rw [hf] at p2
      exact p2.elim
    | some o => exact hn _ h2 (by rw [hf]; rfl)
  · rw [if_neg q] at p2
    exact p2.elim
end
/-! ### what is not written any more stands still -/
mutual
def frzV : Nat → MV → MH → Option (MV × MH)
  | 0, _, _ => none
  | n + 1, x, h => match x with
    | .ref l => match h[l]? with
      | some (.lst xs) => match frzL n xs h with
        | some (ys, h1) => some (.fls ys, h1.set l .dead)
        | none => none
      | _ => none
    | x => some (x, h)
def frzL : Nat → List MV → MH → Option (List MV × MH)
  | _, [], h => some ([], h)
  | n, x :: xs, h => match frzV n x h with
    | some (y, h1) => match frzL n xs h1 with
      | some (ys, h2) => some (y :: ys, h2)
      | none => none
    | none => none
end
@[simp ↓] def frzM (m : ME) : ME := fun s h => (m s h).bnd fun x h1 => match frzV 4 x h1 with
  | some (y, h2) => ok y h2
  | none => none
end Mi
set_option maxHeartbeats 2000000
/-! Mi: what stands still; built-ins; methods of lists; slices. -/
namespace Mi
open PySem L2
/-! ### standing still -/
structure Stood (W W' : Wd) : Prop where
  H : W'.H = W.H
  hid : W'.hid = W.hid
  f : ∀ j b, W'.f j = some b → W.f j = some b
  x : Ext W W'
theorem Stood.refl (W : Wd) : Stood W W := ⟨rfl, rfl, fun _ _ e => e, Ext.refl W⟩
theorem Stood.trans {W W1 W2 : Wd} (a : Stood W W1) (b : Stood W1 W2) : Stood W W2 := ⟨b.H.trans a.H, b.hid.trans a.hid, fun j z e => a.f j z (b.f j z e), a.x.trans b.x⟩
theorem Stood.kill (W : Wd) (l : Nat) : Stood W (W.kill l) := ⟨rfl, rfl, fun _ _ e => (Wd.kill_some e).2, Ext.kill W l⟩
section
variable {K : PySem.W.Frag}
mutual
theorem frzV_ok : ∀ (n : Nat) (x : MV) (h : MH) (y : MV) (h' : MH) (W : Wd) (v : V), frzV n x h = some (y, h') → Sim K W h → RV K W x v → ∃ W', Stood W W' ∧ Sim K W' h' ∧ RV K W' y v
  | 0, _, _, _, _, _, _, e, _, _ => by
    unfold frzV at e
    cases e
  | n + 1, x, h, y, h', W, v, e, S, r => by
    unfold frzV at e
    cases x with
    | ref l =>
      dsimp only at e
      cases hl : h[l]? with
      | none =>
        rw [hl] at e
        cases e
      | some o =>
        rw [hl] at e
        cases o with
        | dead => cases e
        | dK kvs => cases e
        | lst xs =>
          dsimp only at e
          cases hf : frzL n xs h with
          | none =>
            rw [hf] at e
            cases e
          | some q =>
            obtain ⟨ys, h1⟩ := q
            rw [hf] at e
            cases e
            obtain ⟨a, vs, rfl, ea, eH, t⟩ := S.lstAt hl r
            obtain ⟨W1, T, S1, t1⟩ := frzL_ok n xs h ys h1 W vs hf S t
            refine ⟨W1.kill l, T.trans (Stood.kill W1 l), S1.kill l, .fls ⟨fun j z => ?_, ?_⟩ ?_ (t1.mono (Ext.kill W1 l))⟩
            · obtain ⟨hj, e2⟩ := Wd.kill_some z
              exact hj (S.inj j l a (T.f j a e2) ea)
            · show ¬ W1.hid a
              rw [T.hid]
              exact S.nhid l a ea
            · show W1.H a = _
              rw [T.H]
              exact eH
    | _ =>
      cases e
      exact ⟨W, Stood.refl W, S, r⟩
theorem frzL_ok : ∀ (n : Nat) (xs : List MV) (h : MH) (ys : List MV) (h' : MH) (W : Wd) (vs : List V), frzL n xs h = some (ys, h') → Sim K W h → RVs K W xs vs → ∃ W', Stood W W' ∧ Sim K W' h' ∧ RVs K W' ys vs
  | n, [], h, ys, h', W, vs, e, S, r => by
    unfold frzL at e
    cases e
    exact ⟨W, Stood.refl W, S, r⟩
  | n, x :: xs, h, ys, h', W, _, e, S, .cons r t => by
    unfold frzL at e
    cases hf : frzV n x h with
    | none =>
      rw [hf] at e
      cases e
    | some q =>
      obtain ⟨y, h1⟩ := q
      rw [hf] at e
      dsimp only at e
      cases hf2 : frzL n xs h1 with
      | none =>
        rw [hf2] at e
        cases e
      | some q2 =>
        obtain ⟨zs, h2⟩ := q2
        rw [hf2] at e
        cases e
        obtain ⟨W1, T1, S1, r1⟩ := frzV_ok n x h y h1 W _ hf S r
        obtain ⟨W2, T2, S2, t2⟩ := frzL_ok n xs h1 zs h' W1 _ hf2 S1 (t.mono T1.x)
        exact ⟨W2, T1.trans T2, S2, .cons (r1.mono T2.x) t2⟩
end
end
section
variable {X : Cx} {c : XC} {e : Expr} {es : List Expr} {pos : Pos} {K : PySem.W.Frag} {W : Wd}
theorem em_frz {m : ME} (h : EM X c e m) : EM X c e (frzM m) := pe_wk h fun σ H Q ⟨W, h, s, e, S, rs, p⟩ => by
  subst e
  refine ⟨W, h, s, rfl, S, rs, p.bnd fun W1 h1 x x1 S1 p1 v r1 => ?_⟩
  cases hf : frzV 4 x h1 with
  | none =>
    rw [hf] at p1
    exact p1.elim
  | some q =>
    rw [hf] at p1
    obtain ⟨W2, T, S2, r2⟩ := frzV_ok 4 x h1 q.1 q.2 W1 v hf S1 r1
    rw [← T.H]
    exact p1 W2 T.x S2 v r2
/-! ### built-ins by values -/
def CallM (K : PySem.W.Frag) (c : XC) (r : List V → Hp → VK → Prop) (f : List MV → MH → Res MV) : Prop :=
  ∀ (W : Wd) (h : MH) (xs : List MV) (vs : List V) (Q : VK), Sim K W h → RVs K W xs vs → Pst K c (CV K Q) W (f xs h) → r vs W.H Q
/-- one that gives a new list -/
def CallL (K : PySem.W.Frag) (c : XC) (r : List V → Hp → VK → Prop) (f : List MV → MH → Res (List MV)) : Prop :=
  ∀ (W : Wd) (h : MH) (xs : List MV) (vs : List V) (Q : VK), Sim K W h → RVs K W xs vs → Pst K c (CL K Q) W (f xs h) → r vs W.H Q
@[simp ↓] def bltM (f : List MV → MH → Res MV) (a : MM (List MV)) : ME := fun s h => (a s h).bnd f
@[simp ↓] def bltL (f : List MV → MH → Res (List MV)) (a : MM (List MV)) : MM (List MV) := fun s h => (a s h).bnd f
theorem tCB_of {r : List V → Hp → VK → Prop} {f : List MV → MH → Res MV} {m : MM (List MV)} (ho : CallM K c r f) {σ : St} {H : Hp} {Q : VK} (q : tM K c (bltM f m) σ H Q) : tCB r (tMA K c m) σ H Q := by
  obtain ⟨W, h, s, e, S, rs, p⟩ := q
  subst e
  exact ⟨W, h, s, rfl, S, rs, p.bnd fun W1 h1 xs x1 S1 p1 vs r1 => ho W1 h1 xs vs Q S1 r1 p1⟩
theorem tCL_of {r : List V → Hp → VK → Prop} {f : List MV → MH → Res (List MV)} {m : MM (List MV)} (ho : CallL K c r f) {σ : St} {H : Hp} {Q : VK} (q : tML K c (bltL f m) σ H Q) : tCB r (tMA K c m) σ H Q := by
  obtain ⟨W, h, s, e, S, rs, p⟩ := q
  subst e
  exact ⟨W, h, s, rfl, S, rs, p.bnd fun W1 h1 xs x1 S1 p1 vs r1 => ho W1 h1 xs vs Q S1 r1 p1⟩
theorem em_blt {id : String} {x : Str} {p : Pos} {r : List V → Hp → VK → Prop} {f : List MV → MH → Res MV} {m : MM (List MV)} (hc : CallR X (.builtin id) r) (ho : CallM X.K c r f) (hg : Gl X x) (hm : X.mg x = none) (hv : bootBuiltins x = some (.builtin id)) (ha : AM X c (e :: es) m) (hn : x ≠ "__name__" := by decide) (hdb : (x == ("__debug__" : Str)) = false := by decide)
    (he : starEach (e :: es) X.env = (false, eval e X.env) :: starEach es X.env := by rfl) (hpl : (backTo pos (starEach es X.env)).any (·.1) = false := by rfl) : EM X c (.Call (.Name x p) (e :: es) [] pos) (bltM f m) := pe_wk (pe_callB hc hg hm hv ha hn hdb he hpl) fun σ H Q q => tCB_of ho q
theorem em_bty {T : String} {x : Str} {p : Pos} {r : List V → Hp → VK → Prop} {f : List MV → MH → Res MV} {m : MM (List MV)} (hc : CallR X (.type T) r) (ho : CallM X.K c r f) (hg : Gl X x) (hm : X.mg x = none) (hv : bootBuiltins x = some (.type T)) (ha : AM X c (e :: es) m) (hn : x ≠ "__name__" := by decide) (hdb : (x == ("__debug__" : Str)) = false := by decide)
    (he : starEach (e :: es) X.env = (false, eval e X.env) :: starEach es X.env := by rfl) (hpl : (backTo pos (starEach es X.env)).any (·.1) = false := by rfl) : EM X c (.Call (.Name x p) (e :: es) [] pos) (bltM f m) := pe_wk (pe_callTy hc hg hm hv ha hn hdb he hpl) fun σ H Q q => tCB_of ho q
theorem lm_blt {id : String} {x : Str} {p : Pos} {r : List V → Hp → VK → Prop} {f : List MV → MH → Res (List MV)} {m : MM (List MV)} (hc : CallR X (.builtin id) r) (ho : CallL X.K c r f) (hg : Gl X x) (hm : X.mg x = none) (hv : bootBuiltins x = some (.builtin id)) (ha : AM X c (e :: es) m) (hn : x ≠ "__name__" := by decide) (hdb : (x == ("__debug__" : Str)) = false := by decide)
    (he : starEach (e :: es) X.env = (false, eval e X.env) :: starEach es X.env := by rfl) (hpl : (backTo pos (starEach es X.env)).any (·.1) = false := by rfl) : LM X c (.Call (.Name x p) (e :: es) [] pos) (bltL f m) := pe_wk (pe_callB hc hg hm hv ha hn hdb he hpl) fun σ H Q q => tCL_of ho q
theorem lm_bty {T : String} {x : Str} {p : Pos} {r : List V → Hp → VK → Prop} {f : List MV → MH → Res (List MV)} {m : MM (List MV)} (hc : CallR X (.type T) r) (ho : CallL X.K c r f) (hg : Gl X x) (hm : X.mg x = none) (hv : bootBuiltins x = some (.type T)) (ha : AM X c (e :: es) m) (hn : x ≠ "__name__" := by decide) (hdb : (x == ("__debug__" : Str)) = false := by decide)
    (he : starEach (e :: es) X.env = (false, eval e X.env) :: starEach es X.env := by rfl) (hpl : (backTo pos (starEach es X.env)).any (·.1) = false := by rfl) : LM X c (.Call (.Name x p) (e :: es) [] pos) (bltL f m) := pe_wk (pe_callTy hc hg hm hv ha hn hdb he hpl) fun σ H Q q => tCL_of ho q
end
@[simp ↓] def lenF (xs : List MV) (h : MH) : Res MV := match xs with
  | [.str z] => if z.length ≤ lim then ok (.int z.length) h else none
  | [x] => match seqOf h x with
    | some ys => ok (.int ys.length) h
    | none => none
  | _ => none
@[simp ↓] def absF (xs : List MV) (h : MH) : Res MV := match xs with
  | [.int i] => ok (.int (if i < 0 then -i else i)) h
  | _ => none
@[simp ↓] def intF (xs : List MV) (h : MH) : Res MV := match xs with
  | [.int i] => ok (.int i) h
  | [.bl k] => ok (.int (if k then 1 else 0)) h
  | _ => none
@[simp ↓] def min2F (xs : List MV) (h : MH) : Res MV := match xs with
  | [.int i, .int j] => ok (.int (if j < i then j else i)) h
  | _ => none
@[simp ↓] def max2F (xs : List MV) (h : MH) : Res MV := match xs with
  | [.int i, .int j] => ok (.int (if j > i then j else i)) h
  | _ => none
@[simp ↓] def tupF (xs : List MV) (h : MH) : Res MV := match xs with
  | [.ktp _] => none
  | [x] => match seqOf h x with
    | some ys => ok (.tup ys) h
    | none => none
  | _ => none
@[simp ↓] def lstF (xs : List MV) (h : MH) : Res (List MV) := match xs with
  | [x] => seqOf h x |>.map fun ys => .ok ys h
  | _ => none
def intOf : MV → Option Int
  | .int i => some i
  | _ => none
def intsOf : List MV → Option (List Int)
  | [] => some []
  | x :: xs => match intOf x, intsOf xs with
    | some i, some is => some (i :: is)
    | _, _ => none
def blOf : MV → Option Bool
  | .bl b => some b
  | _ => none
def blsOf : List MV → Option (List Bool)
  | [] => some []
  | x :: xs => match blOf x, blsOf xs with
    | some i, some is => some (i :: is)
    | _, _ => none
def sumF (xs : List MV) (h : MH) : Res MV := match xs with
  | [x] => match (lstOf h x).bind intsOf with
    | some ns => ok (.int ns.sum) h
    | none => none
  | _ => none
def allF (xs : List MV) (h : MH) : Res MV := match xs with
  | [x] => match (lstOf h x).bind blsOf with
    | some ns => ok (.bl (ns.all id)) h
    | none => none
  | _ => none
def anyF (xs : List MV) (h : MH) : Res MV := match xs with
  | [x] => match (lstOf h x).bind blsOf with
    | some ns => ok (.bl (ns.any id)) h
    | none => none
  | _ => none
/-- the greatest, the least of a list of ints -/
def maxI : List Int → Int
  | [] => 0
  | [x] => x
  | x :: xs => if maxI xs < x then x else maxI xs
def minI : List Int → Int
  | [] => 0
  | [x] => x
  | x :: xs => if x < minI xs then x else minI xs
def maxF (xs : List MV) (h : MH) : Res MV := match xs with
  | [x] => match (lstOf h x).bind intsOf with
    | some ns => if 0 < ns.length then ok (.int (maxI ns)) h else none
    | none => none
  | _ => none
def minF (xs : List MV) (h : MH) : Res MV := match xs with
  | [x] => match (lstOf h x).bind intsOf with
    | some ns => if 0 < ns.length then ok (.int (minI ns)) h else none
    | none => none
  | _ => none
section
variable {X : Cx} {c : XC} {K : PySem.W.Frag} {W : Wd}
theorem ints_V : ∀ {xs : List MV} {vs : List V} {ns : List Int}, RVs K W xs vs → intsOf xs = some ns → vs = ns.map V.int ∧ xs = ns.map MV.int
  | [], _, _, .nil, e => by
    cases e
    exact ⟨rfl, rfl⟩
  | x :: xs, _, ns, .cons r t, e => by
    unfold intsOf at e
    cases x <;> first | (cases e; done) | skip
    rename_i i
    cases h : intsOf xs with
    | none =>
      simp only [intOf, h] at e
      cases e
    | some is =>
      simp only [intOf, h] at e
      cases e
      obtain ⟨e1, e2⟩ := ints_V t h
      subst e1 e2
      rw [rv_int r]
      exact ⟨rfl, rfl⟩
theorem bls_V : ∀ {xs : List MV} {vs : List V} {ns : List Bool}, RVs K W xs vs → blsOf xs = some ns → vs = ns.map V.bl ∧ xs = ns.map MV.bl
  | [], _, _, .nil, e => by
    cases e
    exact ⟨rfl, rfl⟩
  | x :: xs, _, ns, .cons r t, e => by
    unfold blsOf at e
    cases x <;> first | (cases e; done) | skip
    rename_i i
    cases h : blsOf xs with
    | none =>
      simp only [blOf, h] at e
      cases e
    | some is =>
      simp only [blOf, h] at e
      cases e
      obtain ⟨e1, e2⟩ := bls_V t h
      subst e1 e2
      rw [rv_bl r]
      exact ⟨rfl, rfl⟩
theorem lst_bind {β : Type} {h : MH} {x : MV} {v : V} {f : List MV → Option β} {b : β} (S : Sim K W h) (r : RV K W x v) (e : (lstOf h x).bind f = some b) : ∃ p vs xs, v = .ref p ∧ SqL K W.H p vs ∧ RVs K W xs vs ∧ f xs = some b := by
  cases hl : lstOf h x with
  | none =>
    rw [hl] at e
    cases e
  | some xs =>
    rw [hl] at e
    obtain ⟨p, vs, e1, e2, t⟩ := lst_sq S r hl
    exact ⟨p, vs, xs, e1, e2, t, e⟩
theorem cm_len : CallM K c (fun xs H Q => ∃ x n, xs = [x] ∧ LenV K x H n ∧ Q (.int n) H) lenF := fun W h xs vs Q S r p => by
  unfold lenF at p
  split at p
  · rename_i z
    obtain ⟨v, rfl, r1⟩ := rvs_one r
    by_cases q : z.length ≤ lim
    · rw [if_pos q] at p
      exact ⟨v, z.length, rfl, by rw [rv_str r1]; exact ⟨lim_line q, rfl⟩, Pst.now p S _ (.int _)⟩
    · rw [if_neg q] at p
      exact p.elim
  · rename_i x _
    obtain ⟨v, rfl, r1⟩ := rvs_one r
    cases e : seqOf h x with
    | none =>
      rw [e] at p
      exact p.elim
    | some ys =>
      rw [e] at p
      obtain ⟨a, ws, rfl, hq, t⟩ := seq_sq S r1 e
      refine ⟨_, ys.length, rfl, ?_, Pst.now p S _ (.int _)⟩
      rcases hq with hq | hq
      · exact .inl ⟨ws, hq, t.length⟩
      · exact .inr ⟨ws, hq, t.length⟩
  · exact p.elim
theorem cm_abs : CallM K c (fun xs H Q => ∃ i, xs = [.int i] ∧ Q (.int (if i < 0 then -i else i)) H) absF := fun W h xs vs Q S r p => by
  unfold absF at p
  split at p
  · rename_i i
    obtain ⟨v, rfl, r1⟩ := rvs_one r
    exact ⟨i, by rw [rv_int r1], Pst.now p S _ (.int _)⟩
  · exact p.elim
theorem cm_int : CallM K c (fun xs H Q => (∃ i, xs = [.int i] ∧ Q (.int i) H) ∨ ∃ k, xs = [.bl k] ∧ Q (.int (if k then 1 else 0)) H) intF := fun W h xs vs Q S r p => by
  unfold intF at p
  split at p
  · rename_i i
    obtain ⟨v, rfl, r1⟩ := rvs_one r
    exact .inl ⟨i, by rw [rv_int r1], Pst.now p S _ (.int _)⟩
  · rename_i i
    obtain ⟨v, rfl, r1⟩ := rvs_one r
    exact .inr ⟨i, by rw [rv_bl r1], Pst.now p S _ (.int _)⟩
  · exact p.elim
theorem cm_min2 : CallM K c (fun xs H Q => ∃ i j, xs = [.int i, .int j] ∧ Q (.int (if j < i then j else i)) H) min2F := fun W h xs vs Q S r p => by
  unfold min2F at p
  split at p
  · rename_i i j
    obtain ⟨v, w, rfl, r1, r2⟩ := rvs_two r
    exact ⟨i, j, by rw [rv_int r1, rv_int r2], Pst.now p S _ (.int _)⟩
  · exact p.elim
theorem cm_max2 : CallM K c (fun xs H Q => ∃ i j, xs = [.int i, .int j] ∧ Q (.int (if j > i then j else i)) H) max2F := fun W h xs vs Q S r p => by
  unfold max2F at p
  split at p
  · rename_i i j
    obtain ⟨v, w, rfl, r1, r2⟩ := rvs_two r
    exact ⟨i, j, by rw [rv_int r1, rv_int r2], Pst.now p S _ (.int _)⟩
  · exact p.elim
theorem cm_tup : CallM K c (fun xs H Q => ∃ p ys, xs = [.ref p] ∧ ((SqL K H p ys ∧ ∀ l, H l = none → Q (.ref l) (upd H l (.tup ys))) ∨ (SqT K H p ys ∧ Q (.ref p) H))) tupF := fun W h xs vs Q S r p => by
  unfold tupF at p
  split at p
  · exact p.elim
  · rename_i x hk
    obtain ⟨v, rfl, r1⟩ := rvs_one r
    cases e : seqOf h x with
    | none =>
      rw [e] at p
      exact p.elim
    | some ys =>
      rw [e] at p
      cases x with
      | tup zs =>
        cases e
        obtain ⟨a, ws, rfl, hq, t⟩ := tup_sq r1
        exact ⟨a, ws, rfl, .inr ⟨hq, Pst.now p S _ r1⟩⟩
      | ktp zs => exact absurd rfl (hk zs)
      | _ =>
        obtain ⟨a, ws, rfl, hq, t⟩ := lst_sq S r1 e
        exact ⟨a, ws, rfl, .inl ⟨hq, fun l hl => p (W.put l (.tup ws)) (Ext.put S hl) (S.put hl) (.ref l) (.tup (S.fresh hl) upd_same (t.mono (Ext.put S hl)))⟩⟩
  · exact p.elim
theorem cl_lst : CallL K c (fun xs H Q => ∃ p ys, xs = [.ref p] ∧ (SqL K H p ys ∨ SqT K H p ys) ∧ ∀ l, H l = none → Q (.ref l) (upd H l (.lst ys))) lstF := fun W h xs vs Q S r p => by
  unfold lstF at p
  split at p
  · rename_i x
    obtain ⟨v, rfl, r1⟩ := rvs_one r
    cases e : seqOf h x with
    | none =>
      rw [e] at p
      exact p.elim
    | some ys =>
      rw [e] at p
      obtain ⟨a, ws, rfl, hq, t⟩ := seq_sq S r1 e
      exact ⟨a, ws, rfl, hq, fun l hl => p W (Ext.refl W) S ws l t hl⟩
  · exact p.elim
theorem cm_sum : CallM K c (rSum K) sumF := fun W h xs vs Q S r p => by
  unfold sumF at p
  split at p
  · rename_i x
    obtain ⟨v, rfl, r1⟩ := rvs_one r
    cases e : (lstOf h x).bind intsOf with
    | none =>
      rw [e] at p
      exact p.elim
    | some ns =>
      rw [e] at p
      obtain ⟨a, ws, ys, rfl, hq, t, e2⟩ := lst_bind S r1 e
      exact ⟨a, ns, rfl, by rw [← (ints_V t e2).1]; exact hq, Pst.now p S _ (.int _)⟩
  · exact p.elim
theorem cm_all : CallM K c (rAll K) allF := fun W h xs vs Q S r p => by
  unfold allF at p
  split at p
  · rename_i x
    obtain ⟨v, rfl, r1⟩ := rvs_one r
    cases e : (lstOf h x).bind blsOf with
    | none =>
      rw [e] at p
      exact p.elim
    | some ns =>
      rw [e] at p
      obtain ⟨a, ws, ys, rfl, hq, t, e2⟩ := lst_bind S r1 e
      exact ⟨a, ns, rfl, by rw [← (bls_V t e2).1]; exact hq, Pst.now p S _ (.bl _)⟩
  · exact p.elim
theorem cm_any : CallM K c (rAny K) anyF := fun W h xs vs Q S r p => by
  unfold anyF at p
  split at p
  · rename_i x
    obtain ⟨v, rfl, r1⟩ := rvs_one r
    cases e : (lstOf h x).bind blsOf with
    | none =>
      rw [e] at p
      exact p.elim
    | some ns =>
      rw [e] at p
      obtain ⟨a, ws, ys, rfl, hq, t, e2⟩ := lst_bind S r1 e
      exact ⟨a, ns, rfl, by rw [← (bls_V t e2).1]; exact hq, Pst.now p S _ (.bl _)⟩
  · exact p.elim
theorem maxI_of : ∀ {ns : List Int} {m : Int}, m ∈ ns → (∀ y, y ∈ ns → y ≤ m) → maxI ns = m
  | [], _, h, _ => by cases h
  | [x], m, h, _ => by
    have := List.mem_singleton.mp h
    exact this.symm
  | x :: y :: ys, m, h, hm => by
    have hx := hm x (List.mem_cons_self ..)
    show (if maxI (y :: ys) < x then x else maxI (y :: ys)) = m
    by_cases hin : m ∈ y :: ys
    · rw [maxI_of hin fun z hz => hm z (List.mem_cons_of_mem _ hz)]
      rw [if_neg (by omega)]
    · have e : m = x := (List.mem_cons.mp h).resolve_right hin
      have ne : ∃ k, k ∈ y :: ys ∧ ∀ z, z ∈ y :: ys → z ≤ k := by
        have : ∀ (l : List Int), l ≠ [] → ∃ k, k ∈ l ∧ ∀ z, z ∈ l → z ≤ k := fun l => by
          induction l with
          | nil => exact fun h => absurd rfl h
          | cons a l ih =>
            intro _
            cases l with
            | nil => exact ⟨a, List.mem_cons_self .., fun z hz => by rw [List.mem_singleton.mp hz]; exact Int.le_refl _⟩
            | cons b l =>
              obtain ⟨k, h1, h2⟩ := ih (by intro z; cases z)
              by_cases hk : a ≤ k
              · exact ⟨k, List.mem_cons_of_mem _ h1, fun z hz => (List.mem_cons.mp hz).elim (fun q => by rw [q]; exact hk) (h2 z)⟩
              · exact ⟨a, List.mem_cons_self .., fun z hz => (List.mem_cons.mp hz).elim (fun q => by rw [q]; exact Int.le_refl _) fun q => by have := h2 z q; omega⟩
        exact this _ (by intro z; cases z)
      obtain ⟨k, h1, h2⟩ := ne
      rw [maxI_of h1 h2]
      have : k ≤ m := hm k (List.mem_cons_of_mem _ h1)
      by_cases hk : k < x
      · rw [if_pos hk, e]
      · rw [if_neg hk]
        omega
theorem cm_max : CallM K c (rMax K) maxF := fun W h xs vs Q S r p => by
  unfold maxF at p
  split at p
  · rename_i x
    obtain ⟨v, rfl, r1⟩ := rvs_one r
    cases e : (lstOf h x).bind intsOf with
    | none =>
      rw [e] at p
      exact p.elim
    | some ns =>
      rw [e] at p
      dsimp only at p
      by_cases q : 0 < ns.length
      · rw [if_pos q] at p
        obtain ⟨a, ws, ys, rfl, hq, t, e2⟩ := lst_bind S r1 e
        exact ⟨a, ns, rfl, by rw [← (ints_V t e2).1]; exact hq, q, fun m h1 h2 => by rw [← maxI_of h1 h2]; exact Pst.now p S _ (.int _)⟩
      · rw [if_neg q] at p
        exact p.elim
  · exact p.elim
theorem minI_of : ∀ {ns : List Int} {m : Int}, m ∈ ns → (∀ y, y ∈ ns → m ≤ y) → minI ns = m
  | [], _, h, _ => by cases h
  | [x], m, h, _ => by
    have := List.mem_singleton.mp h
    exact this.symm
  | x :: y :: ys, m, h, hm => by
    have hx := hm x (List.mem_cons_self ..)
    show (if x < minI (y :: ys) then x else minI (y :: ys)) = m
    by_cases hin : m ∈ y :: ys
    · rw [minI_of hin fun z hz => hm z (List.mem_cons_of_mem _ hz)]
      by_cases hk : x < m
      · omega
      · rw [if_neg hk]
    · have e : m = x := (List.mem_cons.mp h).resolve_right hin
      have ne : ∃ k, k ∈ y :: ys ∧ ∀ z, z ∈ y :: ys → k ≤ z := by
        have : ∀ (l : List Int), l ≠ [] → ∃ k, k ∈ l ∧ ∀ z, z ∈ l → k ≤ z := fun l => by
          induction l with
          | nil => exact fun h => absurd rfl h
          | cons a l ih =>
            intro _
            cases l with
            | nil => exact ⟨a, List.mem_cons_self .., fun z hz => by rw [List.mem_singleton.mp hz]; exact Int.le_refl _⟩
            | cons b l =>
              obtain ⟨k, h1, h2⟩ := ih (by intro z; cases z)
              by_cases hk : k ≤ a
              · exact ⟨k, List.mem_cons_of_mem _ h1, fun z hz => (List.mem_cons.mp hz).elim (fun q => by rw [q]; exact hk) (h2 z)⟩
              · exact ⟨a, List.mem_cons_self .., fun z hz => (List.mem_cons.mp hz).elim (fun q => by rw [q]; exact Int.le_refl _) fun q => by have := h2 z q; omega⟩
        exact this _ (by intro z; cases z)
      obtain ⟨k, h1, h2⟩ := ne
      rw [minI_of h1 h2]
      have : m ≤ k := hm k (List.mem_cons_of_mem _ h1)
      by_cases hk : x < k
      · rw [if_pos hk, e]
      · rw [if_neg hk]
        omega
theorem cm_min : CallM K c (rMin K) minF := fun W h xs vs Q S r p => by
  unfold minF at p
  split at p
  · rename_i x
    obtain ⟨v, rfl, r1⟩ := rvs_one r
    cases e : (lstOf h x).bind intsOf with
    | none =>
      rw [e] at p
      exact p.elim
    | some ns =>
      rw [e] at p
      dsimp only at p
      by_cases q : 0 < ns.length
      · rw [if_pos q] at p
        obtain ⟨a, ws, ys, rfl, hq, t, e2⟩ := lst_bind S r1 e
        exact ⟨a, ns, rfl, by rw [← (ints_V t e2).1]; exact hq, q, fun m h1 h2 => by rw [← minI_of h1 h2]; exact Pst.now p S _ (.int _)⟩
      · rw [if_neg q] at p
        exact p.elim
  · exact p.elim
end
/-! ### isinstance -/
inductive Ty where
  | non | bool | int | str | tuple | list | dict
  deriving DecidableEq
def Ty.nm : Ty → String
  | .non => "NoneType"
  | .bool => "bool"
  | .int => "int"
  | .str => "str"
  | .tuple => "tuple"
  | .list => "list"
  | .dict => "dict"
@[simp ↓] def tyOf (h : MH) : MV → Option Ty
  | .non => some .non
  | .bl _ => some .bool
  | .int _ => some .int
  | .str _ => some .str
  | .tup _ => some .tuple
  | .ktp _ => some .tuple
  | .fls _ => some .list
  | .frz _ => some .list
  | .ref l => match h[l]? with
    | some (.lst _) => some .list
    | some (.dK _) => some .dict
    | _ => none
  | .exc .. => none
def Ty.le (a b : Ty) : Bool := decide (a = b) || (decide (a = .bool) && decide (b = .int))
@[simp ↓] def isiM (ts : List Ty) (m : ME) : ME := fun s h => (m s h).bnd fun x h1 => match tyOf h1 x with
  | some t => ok (.bl (ts.any fun u => t.le u)) h1
  | none => none
section
variable {X : Cx} {c : XC} {K : PySem.W.Frag} {W : Wd} {e : Expr} {pos p p2 : Pos}
theorem kit_le (a b : Ty) (hb : b ≠ .non) : PySem.W.kitOne K (.type a.nm) (.type b.nm) = some (a.le b) := by
  refine kit_ty ?_
  cases a <;> cases b <;> first | exact absurd rfl hb | decide +kernel
theorem ty_V {h : MH} {x : MV} {v : V} {t : Ty} (S : Sim K W h) (r : RV K W x v) (e : tyOf h x = some t) : TyX K W.H v (.type t.nm) := by
  cases r with
  | non =>
    cases e
    exact .base .non
  | bl b =>
    cases e
    exact .base (.bl b)
  | int i =>
    cases e
    exact .base (.int i)
  | str z =>
    cases e
    exact .base (.str z)
  | tup s q t =>
    cases e
    exact .base (.tup q)
  | tupK q t =>
    cases e
    rcases q fun _ => none with (q | ⟨o, q⟩) | ⟨o, its, n, q, hc, _⟩
    · cases q
    · cases q
    · exact .kTuple q hc
  | exc0 => cases e
  | excD => cases e
  | fls s q t =>
    cases e
    exact .base (.lst q)
  | frz s q t =>
    cases e
    rcases q with q | ⟨o, q⟩
    · exact .base (.lst q)
    · exact .base (.frz q)
  | frzK q t =>
    cases e
    rcases q fun _ => none with (q | ⟨o, q⟩) | ⟨o, its, n, q, hc, _⟩
    · cases q
    · cases q
    · exact .kList q hc
  | @ref l a lt q =>
    have e' : (match h[l]? with | some (.lst _) => some Ty.list | some (.dK _) => some Ty.dict | _ => none) = some t := e
    cases hl : h[l]? with
    | none =>
      rw [hl] at e'
      cases e'
    | some o =>
      rw [hl] at e'
      cases o with
      | dead => cases e'
      | lst xs =>
        cases e'
        obtain ⟨b, vs, e1, e2, e3, _⟩ := S.lstAt hl (.ref lt q)
        cases e1
        exact .base (.lst e3)
      | dK kvs =>
        cases e'
        obtain ⟨b, e1, e2, kws, e3, _⟩ := S.at hl (by intro z; cases z) (.ref lt q)
        cases e1
        exact .base (.dK e3)
/-- isinstance(e, T) -/
theorem em_isi {m : ME} {T : Expr} (u : Ty) (hu : u ≠ .non) (hg : Gl X "isinstance") (hm : X.mg "isinstance" = none) (hT : PE X T (tC (.ty u.nm))) (he : EM X c e m) (hs : starEach [e, T] X.env = (false, eval e X.env) :: starEach [T] X.env := by rfl) (hs2 : starEach [T] X.env = (false, eval T X.env) :: starEach [] X.env := by rfl)
    (hpl : (backTo pos (starEach [T] X.env)).any (·.1) = false := by rfl) : EM X c (.Call (.Name "isinstance" p) [e, T] [] pos) (isiM [u] m) :=
  pe_wk (pe_callB call_isi hg hm PyProof.Rows.boot_isinstance (pa_cons he (pa_cons hT pa_nil hs2) hs) (by decide) (by decide) hs hpl) fun σ H Q ⟨W, h, s, e, S, rs, p⟩ => by
    subst e
    refine ⟨W, h, s, rfl, S, rs, p.bnd fun W1 h1 x x1 S1 p1 v r1 => ?_⟩
    cases et : tyOf h1 x with
    | none =>
      rw [et] at p1
      exact p1.elim
    | some t =>
      rw [et] at p1
      refine ⟨v, .ty u.nm, .type t.nm, .type u.nm, t.le u, rfl, .ty _, ty_V S1 r1 et, kit_le t u hu, ?_⟩
      have e2 : ([u].any fun u => t.le u) = t.le u := by
        rw [List.any_cons, List.any_nil, Bool.or_false]
      rw [← e2]
      exact Pst.now p1 S1 _ (.bl _)
theorem kit_any {t : Ty} : ∀ (us : List Ty), (∀ u ∈ us, u ≠ .non) → PySem.W.kitAny K (.type t.nm) (us.map fun u => Value.type u.nm) = some (us.any fun u => t.le u)
  | [], _ => rfl
  | u :: us, h => by
    rw [List.map_cons, List.any_cons]
    refine kitAny_cons (kit_le t u (h u (List.mem_cons_self ..))) (fun e => ?_) fun e => ?_
    · rw [e, Bool.false_or]
      exact kit_any us fun z hz => h z (List.mem_cons_of_mem _ hz)
    · rw [e, Bool.true_or]
/-- isinstance(e, (T, U)) -/
theorem em_isi2 {m : ME} {T U : Expr} {k : Nat} (t u : Ty) (ht : t ≠ .non) (hu : u ≠ .non) (hg : Gl X "isinstance") (hm : X.mg "isinstance" = none) (hT : PE X T (tC (.ty t.nm))) (hU : PE X U (tC (.ty u.nm))) (he : EM X c e m) (hs : starEach [e, .Tuple [T, U] k p2] X.env = (false, eval e X.env) :: starEach [.Tuple [T, U] k p2] X.env := by rfl)
    (hs2 : starEach [.Tuple [T, U] k p2] X.env = (false, eval (.Tuple [T, U] k p2) X.env) :: starEach [] X.env := by rfl) (ht1 : starEach [T, U] X.env = (false, eval T X.env) :: starEach [U] X.env := by rfl) (hu1 : starEach [U] X.env = (false, eval U X.env) :: starEach [] X.env := by rfl)
    (hpl : (backTo pos (starEach [.Tuple [T, U] k p2] X.env)).any (·.1) = false := by rfl) : EM X c (.Call (.Name "isinstance" p) [e, .Tuple [T, U] k p2] [] pos) (isiM [t, u] m) :=
  pe_wk (pe_callB call_isiT hg hm PyProof.Rows.boot_isinstance (pa_cons he (pa_cons (pe_tup (pa_cons hT (pa_cons hU pa_nil hu1) ht1)) pa_nil hs2) hs) (by decide) (by decide) hs hpl) fun σ H Q ⟨W, h, s, e, S, rs, p⟩ => by
    subst e
    refine ⟨W, h, s, rfl, S, rs, p.bnd fun W1 h1 x x1 S1 p1 v r1 => ?_⟩
    refine ⟨by show 2 ≤ sizeLine; rw [sizeLine_eq]; decide, fun q hq => ?_⟩
    have S2 : Sim X.K (W1.put q (.tup [.ty t.nm, .ty u.nm])) h1 := S1.put hq
    have x2 : Ext W1 (W1.put q (.tup [.ty t.nm, .ty u.nm])) := Ext.put S1 hq
    cases et : tyOf h1 x with
    | none =>
      rw [et] at p1
      exact p1.elim
    | some ty =>
      rw [et] at p1
      refine ⟨v, q, _, .type ty.nm, [.type t.nm, .type u.nm], [t, u].any fun u => ty.le u, rfl, upd_same, .cons (.ty _) (.cons (.ty _) .nil), ty_V S2 (r1.mono x2) et, kit_any [t, u] (fun z hz => ?_), p1 _ x2 S2 _ (.bl _)⟩
      rcases List.mem_cons.mp hz with e | e
      · rw [e]
        exact ht
      · rw [List.mem_singleton.mp e]
        exact hu
end
/-! ### methods of lists -/
@[simp ↓] def isL (h : MH) (x : MV) : Bool := match x with
  | .ref l => match h[l]? with
    | some (.lst _) => true
    | _ => false
  | _ => false
@[simp ↓] def mthM (f : MV → List MV → MH → Res MV) (o : ME) (a : MM (List MV)) : ME := fun s h => (o s h).bnd fun x h1 => if isL h1 x = true then (a s h1).bnd fun ys h2 => f x ys h2 else none
@[simp ↓] def appF (x : MV) (ys : List MV) (h : MH) : Res MV := match x, ys with
  | .ref l, [y] => match h[l]? with
    | some (.lst xs) => if xs.length < lim then ok .non (h.set l (.lst (xs ++ [y]))) else none
    | _ => none
  | _, _ => none
@[simp ↓] def popF (x : MV) (ys : List MV) (h : MH) : Res MV := match x, ys with
  | .ref l, [] => match h[l]? with
    | some (.lst xs) => match xs[xs.length - 1]? with
      | some y => ok y (h.set l (.lst xs.dropLast))
      | none => none
    | _ => none
  | _, _ => none
@[simp ↓] def popAtF (x : MV) (ys : List MV) (h : MH) : Res MV := match x, ys with
  | .ref l, [.int i] => match h[l]? with
    | some (.lst xs) => match ixN xs.length i with
      | some k => match xs[k]? with
        | some y => if xs.length ≤ lim then ok y (h.set l (.lst (xs.eraseIdx k))) else none
        | none => none
      | none => none
    | _ => none
  | _, _ => none
@[simp ↓] def extF (x : MV) (ys : List MV) (h : MH) : Res MV := match x, ys with
  | .ref l, [.ref k] => match h[l]?, h[k]? with
    | some (.lst xs), some (.lst zs) => if xs.length + zs.length ≤ lim then ok .non (h.set l (.lst (xs ++ zs))) else none
    | _, _ => none
  | .ref l, [.fls zs] => match h[l]? with
    | some (.lst xs) => if xs.length + zs.length ≤ lim then ok .non (h.set l (.lst (xs ++ zs))) else none
    | _ => none
  | _, _ => none
@[simp ↓] def revF (x : MV) (ys : List MV) (h : MH) : Res MV := match x, ys with
  | .ref l, [] => match h[l]? with
    | some (.lst xs) => ok .non (h.set l (.lst xs.reverse))
    | _ => none
  | _, _ => none
def MthM (K : PySem.W.Frag) (c : XC) (r : V → List V → Hp → VK → Prop) (f : MV → List MV → MH → Res MV) : Prop :=
  ∀ (W : Wd) (h : MH) (x : MV) (xs : List MV) (v : V) (vs : List V) (Q : VK), Sim K W h → RV K W x v → RVs K W xs vs → Pst K c (CV K Q) W (f x xs h) → r v vs W.H Q
section
variable {X : Cx} {c : XC} {K : PySem.W.Frag} {W : Wd} {o e : Expr} {es : List Expr}
theorem isL_ty {h : MH} {x : MV} {v : V} (S : Sim K W h) (r : RV K W x v) (e : isL h x = true) : tyV K "list" v W.H := by
  unfold isL at e
  cases x <;> first | (cases e; done) | skip
  rename_i l
  dsimp only at e
  cases hl : h[l]? with
  | none =>
    rw [hl] at e
    cases e
  | some o =>
    rw [hl] at e
    cases o with
    | lst xs =>
      obtain ⟨a, vs, rfl, e2, e3, t⟩ := S.lstAt hl r
      exact .inl ⟨rfl, vs, .inl (.inl e3)⟩
    | dead => cases e
    | dK kvs => cases e
theorem em_mth {name : Str} {apos cpos : Pos} {r : V → List V → Hp → VK → Prop} {f : MV → List MV → MH → Res MV} {mo : ME} {ma : MM (List MV)} (hf : MthM X.K c r f)
    (h : PE X (.Call (.Attribute o name apos) (e :: es) [] cpos) (tBM X.K "list" r (tM X.K c mo) (tMA X.K c ma))) : EM X c (.Call (.Attribute o name apos) (e :: es) [] cpos) (mthM f mo ma) := pe_wk h fun σ H Q ⟨W, h, s, e, S, rs, p⟩ => by
  subst e
  refine ⟨W, h, s, rfl, S, rs, p.bnd fun W1 h1 x x1 S1 p1 v r1 => ?_⟩
  by_cases q : isL h1 x = true
  · rw [if_pos q] at p1
    exact ⟨isL_ty S1 r1 q, W1, h1, s, rfl, S1, rs.mono x1, p1.bnd fun W2 h2 ys x2 S2 p2 vs r2 => hf W2 h2 x ys v vs Q S2 (r1.mono x2) r2 p2⟩
  · rw [if_neg q] at p1
    exact p1.elim
theorem em_mth0 {name : Str} {apos cpos : Pos} {r : V → List V → Hp → VK → Prop} {f : MV → List MV → MH → Res MV} {mo : ME} (hf : MthM X.K c r f)
    (h : PE X (.Call (.Attribute o name apos) [] [] cpos) (tBM0 X.K "list" r (tM X.K c mo))) : EM X c (.Call (.Attribute o name apos) [] [] cpos) (mthM f mo nilA) := pe_wk h fun σ H Q ⟨W, h, s, e, S, rs, p⟩ => by
  subst e
  refine ⟨W, h, s, rfl, S, rs, p.bnd fun W1 h1 x x1 S1 p1 v r1 => ?_⟩
  by_cases q : isL h1 x = true
  · rw [if_pos q] at p1
    exact ⟨isL_ty S1 r1 q, hf W1 h1 x [] v [] Q S1 r1 .nil p1⟩
  · rw [if_neg q] at p1
    exact p1.elim
theorem mm_app : MthM K c rAppend appF := fun W h x ys v vs Q S r rs p => by
  unfold appF at p
  split at p
  · rename_i l y
    obtain ⟨u, rfl, ry⟩ := rvs_one rs
    cases hl : h[l]? with
    | none =>
      rw [hl] at p
      exact p.elim
    | some o =>
      rw [hl] at p
      cases o with
      | dead => exact p.elim
      | dK kvs => exact p.elim
      | lst xs =>
        dsimp only at p
        by_cases q : xs.length < lim
        · rw [if_pos q] at p
          obtain ⟨a, ws, rfl, e2, e3, t⟩ := S.lstAt hl r
          refine ⟨a, ws, u, rfl, rfl, e3, Nat.lt_of_lt_of_le (by rw [← t.length]; exact q) (lim_line (Nat.le_refl _)), ?_⟩
          exact p (W.wr a (.lst (ws ++ [u]))) (Ext.wr S e2) (S.wr e2 ⟨_, upd_same, ((t.append (.one ry)).mono (Ext.wr S e2))⟩) _ .non
        · rw [if_neg q] at p
          exact p.elim
  · exact p.elim
theorem RVs.dropLast {xs : List MV} {vs : List V} (t : RVs K W xs vs) : RVs K W xs.dropLast vs.dropLast := by
  rw [List.dropLast_eq_take, List.dropLast_eq_take, ← t.length]
  exact t.take _
theorem mm_pop : MthM K c rPop popF := fun W h x ys v vs Q S r rs p => by
  unfold popF at p
  split at p
  · rename_i l
    cases rs
    cases hl : h[l]? with
    | none =>
      rw [hl] at p
      exact p.elim
    | some o =>
      rw [hl] at p
      cases o with
      | dead => exact p.elim
      | dK kvs => exact p.elim
      | lst xs =>
        dsimp only at p
        cases hy : xs[xs.length - 1]? with
        | none =>
          rw [hy] at p
          exact p.elim
        | some y =>
          rw [hy] at p
          obtain ⟨a, ws, rfl, e2, e3, t⟩ := S.lstAt hl r
          obtain ⟨u, hu, ru⟩ := t.get hy
          refine ⟨a, ws, u, rfl, rfl, e3, by rw [← t.length]; exact hu, ?_⟩
          exact p (W.wr a (.lst ws.dropLast)) (Ext.wr S e2) (S.wr e2 ⟨_, upd_same, t.dropLast.mono (Ext.wr S e2)⟩) u (ru.mono (Ext.wr S e2))
  · exact p.elim
theorem mm_popAt : MthM K c rPopAt popAtF := fun W h x ys v vs Q S r rs p => by
  unfold popAtF at p
  split at p
  · rename_i l i
    obtain ⟨w, rfl, ri⟩ := rvs_one rs
    cases hl : h[l]? with
    | none =>
      rw [hl] at p
      exact p.elim
    | some o =>
      rw [hl] at p
      cases o with
      | dead => exact p.elim
      | dK kvs => exact p.elim
      | lst xs =>
        dsimp only at p
        cases hk : ixN xs.length i with
        | none =>
          rw [hk] at p
          exact p.elim
        | some k =>
          rw [hk] at p
          dsimp only at p
          cases hy : xs[k]? with
          | none =>
            rw [hy] at p
            exact p.elim
          | some y =>
            rw [hy] at p
            dsimp only at p
            by_cases q : xs.length ≤ lim
            · rw [if_pos q] at p
              obtain ⟨a, ws, rfl, e2, e3, t⟩ := S.lstAt hl r
              obtain ⟨u, hu, ru⟩ := t.get hy
              obtain ⟨h1, h2, h3, h4⟩ := ixN_seq hk
              have hlim : lim = 1000000 := rfl
              refine ⟨a, ws, i, k, u, rfl, by rw [rv_int ri], e3, by omega, by omega, by rw [← t.length]; exact h1, hu, ?_⟩
              exact p (W.wr a (.lst (ws.eraseIdx k))) (Ext.wr S e2) (S.wr e2 ⟨_, upd_same, (t.eraseIdx k).mono (Ext.wr S e2)⟩) u (ru.mono (Ext.wr S e2))
            · rw [if_neg q] at p
              exact p.elim
  · exact p.elim
theorem mm_ext : MthM K c rExtend extF := fun W h x ys v vs Q S r rs p => by
  unfold extF at p
  split at p
  · rename_i l k
    obtain ⟨w, rfl, ri⟩ := rvs_one rs
    cases hl : h[l]? with
    | none =>
      simp only [hl] at p
      exact p.elim
    | some o =>
      cases hk : h[k]? with
      | none =>
        cases o <;> (simp only [hl, hk] at p; exact p.elim)
      | some o2 =>
        cases o with
        | dead =>
          simp only [hl, hk] at p
          exact p.elim
        | dK kvs =>
          simp only [hl, hk] at p
          exact p.elim
        | lst xs =>
          cases o2 with
          | dead =>
            simp only [hl, hk] at p
            exact p.elim
          | dK kvs =>
            simp only [hl, hk] at p
            exact p.elim
          | lst zs =>
            simp only [hl, hk] at p
            by_cases q : xs.length + zs.length ≤ lim
            · rw [if_pos q] at p
              obtain ⟨a, ws, rfl, e2, e3, t⟩ := S.lstAt hl r
              obtain ⟨a2, ws2, rfl, e22, e32, t2⟩ := S.lstAt hk ri
              refine ⟨a, a2, ws, ws2, rfl, rfl, e3, e32, by rw [← t.length, ← t2.length]; exact lim_line q, ?_⟩
              exact p (W.wr a (.lst (ws ++ ws2))) (Ext.wr S e2) (S.wr e2 ⟨_, upd_same, (t.append t2).mono (Ext.wr S e2)⟩) _ .non
            · rw [if_neg q] at p
              exact p.elim
  · rename_i l zs
    obtain ⟨w, rfl, ri⟩ := rvs_one rs
    cases hl : h[l]? with
    | none =>
      rw [hl] at p
      exact p.elim
    | some o =>
      rw [hl] at p
      cases o with
      | dead => exact p.elim
      | dK kvs => exact p.elim
      | lst xs =>
        dsimp only at p
        by_cases q : xs.length + zs.length ≤ lim
        · rw [if_pos q] at p
          obtain ⟨a, ws, rfl, e2, e3, t⟩ := S.lstAt hl r
          cases ri with
          | fls s2 e32 t2 =>
            refine ⟨a, _, ws, _, rfl, rfl, e3, e32, by rw [← t.length, ← t2.length]; exact lim_line q, ?_⟩
            exact p (W.wr a (.lst (ws ++ _))) (Ext.wr S e2) (S.wr e2 ⟨_, upd_same, (t.append t2).mono (Ext.wr S e2)⟩) _ .non
        · rw [if_neg q] at p
          exact p.elim
  · exact p.elim
theorem mm_rev : MthM K c rReverse revF := fun W h x ys v vs Q S r rs p => by
  unfold revF at p
  split at p
  · rename_i l
    cases rs
    cases hl : h[l]? with
    | none =>
      rw [hl] at p
      exact p.elim
    | some o =>
      rw [hl] at p
      cases o with
      | dead => exact p.elim
      | dK kvs => exact p.elim
      | lst xs =>
        obtain ⟨a, ws, rfl, e2, e3, t⟩ := S.lstAt hl r
        exact ⟨a, ws, rfl, rfl, e3, p (W.wr a (.lst ws.reverse)) (Ext.wr S e2) (S.wr e2 ⟨_, upd_same, t.reverse.mono (Ext.wr S e2)⟩) _ .non⟩
  · exact p.elim
end
end Mi
set_option maxHeartbeats 2000000
/-! Mi: slices, lists put together, ranges as lists, sorted. -/
namespace Mi
open PySem L2
/-! ### slices -/
def cutM (xs : List MV) (lo hi : Option Int) : List MV := (xs.drop (HT.sIx xs.length 0 lo)).take (HT.sIx xs.length xs.length hi - HT.sIx xs.length 0 lo)
@[simp ↓] def noO : MM (Option Int) := fun _ h => ok none h
@[simp ↓] def someO (m : ME) : MM (Option Int) := fun s h => (m s h).bnd fun x h1 => match x with
  | .int i => ok (some i) h1
  | _ => none
@[simp ↓] def sliL (m : ME) (lo hi : MM (Option Int)) : MM (List MV) := fun s h => (m s h).bnd fun x h1 => (lo s h1).bnd fun a h2 => (hi s h2).bnd fun b h3 => match lstOf h3 x with
  | some xs => ok (cutM xs a b) h3
  | none => none
@[simp ↓] def sliT (m : ME) (lo hi : MM (Option Int)) : ME := fun s h => (m s h).bnd fun x h1 => (lo s h1).bnd fun a h2 => (hi s h2).bnd fun b h3 => match x with
  | .tup xs => ok (.tup (cutM xs a b)) h3
  | x => match lstOf h3 x with
    | some xs => ok (.fls (cutM xs a b)) h3
    | none => none
@[simp ↓] def rvsL (m : ME) : MM (List MV) := fun s h => (m s h).bnd fun x h1 => match lstOf h1 x with
  | some xs => ok xs.reverse h1
  | none => none
section
variable {X : Cx} {c : XC} {e : Expr} {pos p2 : Pos} {K : PySem.W.Frag} {W : Wd}
theorem RVs.cut {xs : List MV} {vs : List V} (t : RVs K W xs vs) (lo hi : Option Int) : RVs K W (cutM xs lo hi) (cutV vs lo hi) := by
  unfold cutM cutV
  rw [← t.length]
  exact (t.drop _).take _
theorem om_none : PO X none (tMO X.K c noO) := po_wk po_none fun σ H Q ⟨W, h, s, e, S, rs, p⟩ => by
  subst e
  exact p W (Ext.refl W) S
theorem om_some {m : ME} (h : EM X c e m) : PO X (some e) (tMO X.K c (someO m)) := po_wk (po_some h) fun σ H Q ⟨W, h, s, e, S, rs, p⟩ => by
  subst e
  refine ⟨W, h, s, rfl, S, rs, p.bnd fun W1 h1 x x1 S1 p1 v r1 => ?_⟩
  cases x <;> first | exact p1.elim | skip
  rename_i i
  exact ⟨i, rv_int r1, Pst.now p1 S1⟩
theorem lm_sli {m : ME} {lo hi : Option Expr} {ml mh : MM (Option Int)} (he : EM X c e m) (hl : PO X lo (tMO X.K c ml)) (hh : PO X hi (tMO X.K c mh)) : LM X c (.Subscript e (.Slice lo hi none p2) pos) (sliL m ml mh) :=
  pe_wk (pe_slice sl_list he hl hh) fun σ H Q ⟨W, h, s, e, S, rs, p⟩ => by
    subst e
    refine ⟨W, h, s, rfl, S, rs, p.bnd fun W1 h1 x x1 S1 p1 v r1 => ?_⟩
    refine ⟨W1, h1, s, rfl, S1, rs.mono x1, p1.bnd fun W2 h2 a x2 S2 p2 => ?_⟩
    refine ⟨W2, h2, s, rfl, S2, (rs.mono x1).mono x2, p2.bnd fun W3 h3 b x3 S3 p3 => ?_⟩
    cases hx : lstOf h3 x with
    | none =>
      rw [hx] at p3
      exact p3.elim
    | some xs =>
      rw [hx] at p3
      obtain ⟨q, vs, e1, e2, t⟩ := lst_sq S3 ((r1.mono x2).mono x3) hx
      exact ⟨q, vs, e1, e2, fun d hd => p3 W3 (Ext.refl _) S3 _ d (t.cut a b) hd⟩
theorem em_sli {m : ME} {lo hi : Option Expr} {ml mh : MM (Option Int)} (he : EM X c e m) (hl : PO X lo (tMO X.K c ml)) (hh : PO X hi (tMO X.K c mh)) : EM X c (.Subscript e (.Slice lo hi none p2) pos) (sliT m ml mh) :=
  pe_wk (pe_slice (SlR.or sl_list sl_tupA) he hl hh) fun σ H Q ⟨W, h, s, e, S, rs, p⟩ => by
    subst e
    refine ⟨W, h, s, rfl, S, rs, p.bnd fun W1 h1 x x1 S1 p1 v r1 => ?_⟩
    refine ⟨W1, h1, s, rfl, S1, rs.mono x1, p1.bnd fun W2 h2 a x2 S2 p2 => ?_⟩
    refine ⟨W2, h2, s, rfl, S2, (rs.mono x1).mono x2, p2.bnd fun W3 h3 b x3 S3 p3 => ?_⟩
    have r3 := (r1.mono x2).mono x3
    have go : Pst X.K c (CV X.K Q) W3 (match lstOf h3 x with | some xs => ok (.fls (cutM xs a b)) h3 | none => none) → rSlL X.K v a b W3.H Q := fun p3 => by
      cases hx : lstOf h3 x with
      | none =>
        rw [hx] at p3
        exact p3.elim
      | some xs =>
        rw [hx] at p3
        obtain ⟨q, vs, e1, e2, t⟩ := lst_sq S3 r3 hx
        exact ⟨q, vs, e1, e2, fun d hd => p3 (W3.put d _) (Ext.put S3 hd) (S3.put hd) (.ref d) (.fls (S3.fresh hd) upd_same ((t.cut a b).mono (Ext.put S3 hd)))⟩
    cases x with
    | tup xs =>
      obtain ⟨q, vs, rfl, e2, t⟩ := tup_sq r3
      refine .inr ⟨q, vs, rfl, e2, fun hw => ?_, fun hw d hd => ?_⟩
      · have ec : cutM xs a b = xs := by
          unfold cutM
          rw [t.length, hw.1, hw.2, ← t.length]
          simp
        have p4 : Pst X.K c (CV X.K Q) W3 (ok (.tup (cutM xs a b)) h3) := p3
        rw [ec] at p4
        exact Pst.now p4 S3 _ r3
      · exact p3 (W3.put d _) (Ext.put S3 hd) (S3.put hd) (.ref d) (.tup (S3.fresh hd) upd_same ((t.cut a b).mono (Ext.put S3 hd)))
    | _ => exact .inl (go p3)
theorem lm_rvs {m : ME} {k : Nat} {q1 q2 q3 : Pos} (he : EM X c e m) : LM X c (.Subscript e (.Slice none none (some (.UnaryOp .USub (.Constant (.int 1) k q1) q2)) q3) pos) (rvsL m) := pe_wk (pe_revL he) fun σ H Q ⟨W, h, s, e, S, rs, p⟩ => by
  subst e
  refine ⟨W, h, s, rfl, S, rs, p.bnd fun W1 h1 x x1 S1 p1 v r1 => ?_⟩
  cases hx : lstOf h1 x with
  | none =>
    rw [hx] at p1
    exact p1.elim
  | some xs =>
    rw [hx] at p1
    obtain ⟨q, vs, e1, e2, t⟩ := lst_sq S1 r1 hx
    exact ⟨q, vs, e1, e2, fun d hd => p1 W1 (Ext.refl _) S1 _ d t.reverse hd⟩
end
/-! ### lists put together -/
@[simp ↓] def wlstOf (h : MH) : MV → Option (List MV)
  | .fls xs => some xs
  | .ref l => match h[l]? with
    | some (.lst xs) => some xs
    | _ => none
  | _ => none
@[simp ↓] def catL (a b : ME) : MM (List MV) := fun s h => (a s h).bnd fun x h1 => (b s h1).bnd fun y h2 => match wlstOf h2 x, wlstOf h2 y with
  | some xs, some ys => if xs.length + ys.length ≤ lim then ok (xs ++ ys) h2 else none
  | _, _ => none
@[simp ↓] def repL (a b : ME) : MM (List MV) := fun s h => (a s h).bnd fun x h1 => (b s h1).bnd fun y h2 => match wlstOf h2 x, y with
  | some xs, .int k => if (k ≤ 1000000 ∧ -1000000 ≤ k) ∧ xs.length * k.toNat ≤ lim then ok (List.replicate k.toNat xs).flatten h2 else none
  | _, _ => none
@[simp ↓] def rgL (a : ME) : MM (List MV) := fun s h => (a s h).bnd fun x h1 => match x with
  | .int n => if n ≤ 1000000 ∧ -1000000 ≤ n then ok (runOf 0 n.toNat) h1 else none
  | _ => none
@[simp ↓] def rgT (a : ME) : ME := fun s h => (a s h).bnd fun x h1 => match x with
  | .int n => if n ≤ 1000000 ∧ -1000000 ≤ n then ok (.tup (runOf 0 n.toNat)) h1 else none
  | _ => none
section
variable {X : Cx} {c : XC} {a b : Expr} {pos p p2 : Pos} {K : PySem.W.Frag} {W : Wd}
theorem wlst_sq {h : MH} {x : MV} {v : V} {xs : List MV} (S : Sim K W h) (r : RV K W x v) (e : wlstOf h x = some xs) : ∃ p vs, v = .ref p ∧ W.H p = some (.lst vs) ∧ RVs K W xs vs := by
  cases x with
  | fls ys =>
    cases e
    cases r with
    | fls s q t => exact ⟨_, _, rfl, q, t⟩
  | ref l =>
    have e' : (match h[l]? with | some (.lst xs) => some xs | _ => none) = some xs := e
    cases hl : h[l]? with
    | none =>
      rw [hl] at e'
      cases e'
    | some o =>
      rw [hl] at e'
      cases o with
      | lst ys =>
        cases e'
        obtain ⟨a, vs, e1, e2, e3, r3⟩ := S.lstAt hl r
        exact ⟨a, vs, e1, e3, r3⟩
      | dead => cases e'
      | dK kvs => cases e'
  | _ => cases e
theorem lm_cat {ma mb : ME} (ha : EM X c a ma) (hb : EM X c b mb) : LM X c (.BinOp a .Add b pos) (catL ma mb) := pe_wk (pe_op op_cat ha hb) fun σ H Q ⟨W, h, s, e, S, rs, p⟩ => by
  subst e
  refine ⟨W, h, s, rfl, S, rs, p.bnd fun W1 h1 x x1 S1 p1 u r1 => ?_⟩
  refine ⟨W1, h1, s, rfl, S1, rs.mono x1, p1.bnd fun W2 h2 y x2 S2 p2 v r2 => ?_⟩
  cases hx : wlstOf h2 x with
  | none =>
    simp only [hx] at p2
    exact p2.elim
  | some xs =>
    cases hy : wlstOf h2 y with
    | none =>
      simp only [hx, hy] at p2
      exact p2.elim
    | some ys =>
      simp only [hx, hy] at p2
      by_cases q : xs.length + ys.length ≤ lim
      · rw [if_pos q] at p2
        obtain ⟨d1, vs, e1, e2, t1⟩ := wlst_sq S2 (r1.mono x2) hx
        obtain ⟨d2, ws, e3, e4, t2⟩ := wlst_sq S2 r2 hy
        exact ⟨d1, d2, vs, ws, e1, e3, e2, e4, by rw [← t1.length, ← t2.length]; exact lim_line q, fun d hd => p2 W2 (Ext.refl _) S2 _ d (t1.append t2) hd⟩
      · rw [if_neg q] at p2
        exact p2.elim
theorem RVs.rep {xs : List MV} {vs : List V} (t : RVs K W xs vs) : ∀ k : Nat, RVs K W (List.replicate k xs).flatten (List.replicate k vs).flatten
  | 0 => .nil
  | k + 1 => by
    rw [List.replicate_succ, List.replicate_succ, List.flatten_cons, List.flatten_cons]
    exact t.append (RVs.rep t k)
theorem lm_rep {ma mb : ME} (ha : EM X c a ma) (hb : EM X c b mb) : LM X c (.BinOp a .Mult b pos) (repL ma mb) := pe_wk (pe_op op_rep ha hb) fun σ H Q ⟨W, h, s, e, S, rs, p⟩ => by
  subst e
  refine ⟨W, h, s, rfl, S, rs, p.bnd fun W1 h1 x x1 S1 p1 u r1 => ?_⟩
  refine ⟨W1, h1, s, rfl, S1, rs.mono x1, p1.bnd fun W2 h2 y x2 S2 p2 v r2 => ?_⟩
  cases hx : wlstOf h2 x with
  | none =>
    simp only [hx] at p2
    exact p2.elim
  | some xs =>
    cases y <;> first | (simp only [hx] at p2; exact p2.elim) | skip
    rename_i k
    simp only [hx] at p2
    by_cases q : (k ≤ 1000000 ∧ -1000000 ≤ k) ∧ xs.length * k.toNat ≤ lim
    · rw [if_pos q] at p2
      obtain ⟨d1, vs, e1, e2, t1⟩ := wlst_sq S2 (r1.mono x2) hx
      exact ⟨d1, k, vs, e1, rv_int r2, e2, by omega, by omega, by rw [← t1.length]; exact lim_line q.2, fun d hd => p2 W2 (Ext.refl _) S2 _ d (t1.rep _) hd⟩
    · rw [if_neg q] at p2
      exact p2.elim
theorem runOf_V (a : Int) (n : Nat) : RVs K W (runOf a n) ((List.range n).map fun (i : Nat) => V.int (a + (i : Int))) := by
  unfold runOf
  induction List.range n with
  | nil => exact .nil
  | cons i l ih => exact .cons (.int _) ih
theorem rgV_of (n : Int) : rgV 0 n = (List.range n.toNat).map fun (i : Nat) => V.int (0 + (i : Int)) := by
  unfold rgV
  rw [Int.sub_zero]
theorem lm_rg {ma : ME} {p1 : Pos} (hc : X.calm = true) (hg : Gl X "list") (hm : X.mg "list" = none) (hg2 : Gl X "range") (hm2 : X.mg "range" = none) (ha : EM X c a ma) (na : starEach [a] X.env = (false, eval a X.env) :: starEach [] X.env := by rfl)
    (nb : starEach [.Call (.Name "range" p1) [a] [] p2] X.env = (false, eval (.Call (.Name "range" p1) [a] [] p2) X.env) :: starEach [] X.env := by rfl) : LM X c (.Call (.Name "list" p) [.Call (.Name "range" p1) [a] [] p2] [] pos) (rgL ma) :=
  pe_wk (pe_listRg hc hg hm (prg_1 hg2 hm2 ha na) nb) fun σ H Q ⟨W, h, s, e, S, rs, p⟩ => by
    subst e
    refine ⟨W, h, s, rfl, S, rs, p.bnd fun W1 h1 x x1 S1 p1 u r1 => ?_⟩
    cases x <;> first | exact p1.elim | skip
    rename_i n
    have p' : Pst X.K c (CL X.K Q) W1 (if n ≤ 1000000 ∧ -1000000 ≤ n then ok (runOf 0 n.toNat) h1 else none) := p1
    by_cases q : n ≤ 1000000 ∧ -1000000 ≤ n
    · rw [if_pos q] at p'
      exact ⟨n, rv_int r1, ⟨by omega, by omega, by omega, by omega, by omega⟩, fun d hd => by rw [rgV_of]; exact p' W1 (Ext.refl _) S1 _ d (runOf_V 0 _) hd⟩
    · rw [if_neg q] at p'
      exact p'.elim
theorem em_rgT {ma : ME} {p1 : Pos} (hc : X.calm = true) (hg : Gl X "tuple") (hm : X.mg "tuple" = none) (hg2 : Gl X "range") (hm2 : X.mg "range" = none) (ha : EM X c a ma) (na : starEach [a] X.env = (false, eval a X.env) :: starEach [] X.env := by rfl)
    (nb : starEach [.Call (.Name "range" p1) [a] [] p2] X.env = (false, eval (.Call (.Name "range" p1) [a] [] p2) X.env) :: starEach [] X.env := by rfl) : EM X c (.Call (.Name "tuple" p) [.Call (.Name "range" p1) [a] [] p2] [] pos) (rgT ma) :=
  pe_wk (pe_tupRg hc hg hm (prg_1 hg2 hm2 ha na) nb) fun σ H Q ⟨W, h, s, e, S, rs, p⟩ => by
    subst e
    refine ⟨W, h, s, rfl, S, rs, p.bnd fun W1 h1 x x1 S1 p1 u r1 => ?_⟩
    cases x <;> first | exact p1.elim | skip
    rename_i n
    have p' : Pst X.K c (CV X.K Q) W1 (if n ≤ 1000000 ∧ -1000000 ≤ n then ok (.tup (runOf 0 n.toNat)) h1 else none) := p1
    by_cases q : n ≤ 1000000 ∧ -1000000 ≤ n
    · rw [if_pos q] at p'
      refine ⟨n, rv_int r1, ⟨by omega, by omega, by omega, by omega, by omega⟩, fun d hd => ?_⟩
      rw [rgV_of]
      exact p' (W1.put d _) (Ext.put S1 hd) (S1.put hd) (.ref d) (.tup (S1.fresh hd) upd_same (runOf_V 0 _))
    · rw [if_neg q] at p'
      exact p'.elim
end
/-! ### sorted -/
/-- a sort by putting in -/
def insB {α : Type} (le : α → α → Bool) (x : α) : List α → List α
  | [] => [x]
  | y :: ys => if le x y = true then x :: y :: ys else y :: insB le x ys
def srtB {α : Type} (le : α → α → Bool) : List α → List α
  | [] => []
  | x :: xs => insB le x (srtB le xs)
section
variable {α : Type} {le : α → α → Bool}
theorem insB_perm (x : α) : ∀ l : List α, (insB le x l).Perm (x :: l)
  | [] => List.Perm.refl _
  | y :: ys => by
    unfold insB
    by_cases h : le x y = true
    · rw [if_pos h]
    · rw [if_neg h]
      exact ((insB_perm x ys).cons y).trans (List.Perm.swap x y ys)
theorem srtB_perm : ∀ l : List α, (srtB le l).Perm l
  | [] => List.Perm.refl _
  | x :: xs => (insB_perm x _).trans ((srtB_perm xs).cons x)
theorem insB_srt (tot : ∀ a b, le a b = true ∨ le b a = true) (tr : ∀ a b c, le a b = true → le b c = true → le a c = true) (x : α) : ∀ {l : List α}, l.Pairwise (fun a b => le a b = true) → (insB le x l).Pairwise (fun a b => le a b = true)
  | [], _ => List.pairwise_singleton _ x
  | y :: ys, h => by
    obtain ⟨h1, h2⟩ := List.pairwise_cons.mp h
    unfold insB
    by_cases q : le x y = true
    · rw [if_pos q]
      exact List.pairwise_cons.mpr ⟨fun z hz => (List.mem_cons.mp hz).elim (fun e => by rw [e]; exact q) fun hz => tr x y z q (h1 z hz), h⟩
    · rw [if_neg q]
      refine List.pairwise_cons.mpr ⟨fun z hz => ?_, insB_srt tot tr x h2⟩
      rcases List.mem_cons.mp ((insB_perm x ys).mem_iff.mp hz) with e | hz
      · rw [e]
        exact (tot x y).resolve_left q
      · exact h1 z hz
theorem srtB_srt (tot : ∀ a b, le a b = true ∨ le b a = true) (tr : ∀ a b c, le a b = true → le b c = true → le a c = true) : ∀ l : List α, (srtB le l).Pairwise (fun a b => le a b = true)
  | [] => List.Pairwise.nil
  | x :: xs => insB_srt tot tr x (srtB_srt tot tr xs)
theorem srt_uniq (anti : ∀ a b, le a b = true → le b a = true → a = b) (rf : ∀ a, le a a = true) : ∀ {l m : List α}, l.Pairwise (fun a b => le a b = true) → m.Pairwise (fun a b => le a b = true) → l.Perm m → l = m
  | [], m, _, _, h => (List.Perm.eq_nil h.symm).symm
  | x :: l, [], _, _, h => absurd h.length_eq (by simp)
  | x :: l, y :: m, hl, hm, h => by
    obtain ⟨l1, l2⟩ := List.pairwise_cons.mp hl
    obtain ⟨m1, m2⟩ := List.pairwise_cons.mp hm
    have e : x = y := by
      refine anti x y ?_ ?_
      · rcases List.mem_cons.mp (h.mem_iff.mpr (List.mem_cons_self (a := y) (l := m))) with e | hy
        · rw [e]
          exact rf x
        · exact l1 y hy
      · rcases List.mem_cons.mp (h.mem_iff.mp (List.mem_cons_self (a := x) (l := l))) with e | hx
        · rw [e]
          exact rf y
        · exact m1 x hx
    subst e
    rw [srt_uniq anti rf l2 m2 h.cons_inv]
end
def leI (a b : Int) : Bool := decide (a ≤ b)
def leP (p q : Int × Int) : Bool := decide (p.1 < q.1) || (decide (p.1 = q.1) && decide (p.2 ≤ q.2))
theorem leP_iff {p q : Int × Int} : leP p q = true ↔ p.1 < q.1 ∨ (p.1 = q.1 ∧ p.2 ≤ q.2) := by
  unfold leP
  simp
theorem leP_tot (a b : Int × Int) : leP a b = true ∨ leP b a = true := by
  rw [leP_iff, leP_iff]
  omega
theorem leP_tr (a b c : Int × Int) : leP a b = true → leP b c = true → leP a c = true := by
  rw [leP_iff, leP_iff, leP_iff]
  omega
theorem leP_anti (a b : Int × Int) (h1 : leP a b = true) (h2 : leP b a = true) : a = b := by
  rw [leP_iff] at h1 h2
  exact Prod.ext (by omega) (by omega)
def pairOf : MV → Option (Int × Int)
  | .tup [.int a, .int b] => some (a, b)
  | _ => none
def pairsOf : List MV → Option (List (Int × Int))
  | [] => some []
  | x :: xs => match pairOf x, pairsOf xs with
    | some p, some ps => some (p :: ps)
    | _, _ => none
def mvP (p : Int × Int) : MV := .tup [.int p.1, .int p.2]
def sortPF (xs : List MV) (h : MH) : Res (List MV) := match xs with
  | [x] => match (lstOf h x).bind pairsOf with
    | some ps => ok ((srtB leP ps).map mvP) h
    | none => none
  | _ => none
def sortIF (xs : List MV) (h : MH) : Res (List MV) := match xs with
  | [x] => match (lstOf h x).bind intsOf with
    | some ps => ok ((srtB leI ps).map MV.int) h
    | none => none
  | _ => none
section
variable {X : Cx} {c : XC} {K : PySem.W.Frag} {W : Wd}
theorem cl_sortI : CallL K c (rSortedI K) sortIF := fun W h xs vs Q S r p => by
  unfold sortIF at p
  split at p
  · rename_i x
    obtain ⟨v, rfl, r1⟩ := rvs_one r
    cases e : (lstOf h x).bind intsOf with
    | none =>
      rw [e] at p
      exact p.elim
    | some ns =>
      rw [e] at p
      obtain ⟨a, ws, ys, rfl, hq, t, e2⟩ := lst_bind S r1 e
      refine ⟨a, ns, rfl, by rw [← (ints_V t e2).1]; exact hq, fun ns' d pm so hd => ?_⟩
      have en : ns' = srtB leI ns := by
        refine srt_uniq (le := leI) (fun a b h1 h2 => ?_) (fun a => decide_eq_true (Int.le_refl a)) ?_ ?_ (pm.trans (srtB_perm ns).symm)
        · have := of_decide_eq_true h1
          have := of_decide_eq_true h2
          omega
        · exact so.imp fun h => decide_eq_true h
        · refine srtB_srt (fun a b => ?_) (fun a b d h1 h2 => ?_) ns
          · rcases Int.le_total a b with h | h
            · exact .inl (decide_eq_true h)
            · exact .inr (decide_eq_true h)
          · exact decide_eq_true (Int.le_trans (of_decide_eq_true h1) (of_decide_eq_true h2))
      subst en
      refine p W (Ext.refl W) S _ d ?_ hd
      induction srtB leI ns with
      | nil => exact .nil
      | cons i l ih => exact .cons (.int i) ih
  · exact p.elim
/-- the key of a pair that stands in the heap -/
def keyV (H : Hp) (v : V) : Int × Int := match v with
  | .ref t => match H t with
    | some (.tup [.int a, .int b]) => (a, b)
    | _ => (0, 0)
  | _ => (0, 0)
theorem pair_V {x : MV} {v : V} {q : Int × Int} (r : RV K W x v) (e : pairOf x = some q) : x = mvP q ∧ ∃ t, v = .ref t ∧ W.H t = some (.tup [.int q.1, .int q.2]) := by
  unfold pairOf at e
  split at e
  · rename_i a b
    cases e
    cases r with
    | tup s q t =>
      obtain ⟨v1, v2, rfl, r1, r2⟩ := rvs_two t
      rw [rv_int r1, rv_int r2] at q
      exact ⟨rfl, _, rfl, q⟩
  · cases e
theorem pairs_V : ∀ {xs : List MV} {vs : List V} {ps : List (Int × Int)}, RVs K W xs vs → pairsOf xs = some ps → (∀ v ∈ vs, ∃ t, v = V.ref t ∧ W.H t = some (.tup [.int (keyV W.H v).1, .int (keyV W.H v).2])) ∧ vs.map (keyV W.H) = ps ∧ ∀ v ∈ vs, RV K W (mvP (keyV W.H v)) v
  | [], _, _, .nil, e => by
    cases e
    exact ⟨(by simp), rfl, by simp⟩
  | x :: xs, _, ps, .cons (v := v) r t, e => by
    unfold pairsOf at e
    cases h : pairOf x with
    | none =>
      rw [h] at e
      cases e
    | some q =>
      cases h2 : pairsOf xs with
      | none =>
        rw [h, h2] at e
        cases e
      | some qs =>
        rw [h, h2] at e
        cases e
        obtain ⟨a, b, d⟩ := pairs_V t h2
        obtain ⟨ex, tt, ev, eH⟩ := pair_V r h
        have ek : keyV W.H v = q := by
          rw [ev]
          show (match W.H tt with | some (.tup [.int a, .int b]) => (a, b) | _ => (0, 0)) = q
          rw [eH]
        refine ⟨fun u hu => ?_, by rw [List.map_cons, ek, b], fun u hu => ?_⟩
        · rcases List.mem_cons.mp hu with e | hu
          · rw [e, ek]
            exact ⟨tt, ev, eH⟩
          · exact a u hu
        · rcases List.mem_cons.mp hu with e | hu
          · rw [e, ek, ← ex]
            exact r
          · exact d u hu
theorem cl_sortP : CallL K c (rSortedPO K) sortPF := fun W h xs vs Q S r p => by
  unfold sortPF at p
  split at p
  · rename_i x
    obtain ⟨v, rfl, r1⟩ := rvs_one r
    cases e : (lstOf h x).bind pairsOf with
    | none =>
      rw [e] at p
      exact p.elim
    | some ns =>
      rw [e] at p
      obtain ⟨a, ws, ys, rfl, hq, t, e2⟩ := lst_bind S r1 e
      obtain ⟨h1, h2, h3⟩ := pairs_V t e2
      refine ⟨a, ws, keyV W.H, rfl, hq, h1, fun zs d so st hd => ?_⟩
      have en : zs.map (keyV W.H) = srtB leP ns := by
        refine srt_uniq (le := leP) leP_anti (fun a => leP_iff.mpr (.inr ⟨rfl, Int.le_refl _⟩)) ?_ (srtB_srt leP_tot leP_tr ns) ?_
        · refine List.pairwise_map.mpr (List.Pairwise.imp (fun {a b} (h : ltP (keyV W.H) b a = false) => ?_) so)
          have := SrtO.lexB_no.mp h
          rw [leP_iff]
          omega
        · rw [← h2]
          exact (st.perm.map _).trans ((srtB_perm (ws.map (keyV W.H))).symm)
      refine p W (Ext.refl W) S _ d ?_ hd
      rw [← en]
      have hm : ∀ u ∈ zs, RV K W (mvP (keyV W.H u)) u := fun u hu => h3 u (st.perm.mem_iff.mp hu)
      clear en so st
      induction zs with
      | nil => exact .nil
      | cons u us ih => exact .cons (hm u (List.mem_cons_self ..)) (ih fun z hz => hm z (List.mem_cons_of_mem _ hz))
  · exact p.elim
end
/-! ### the law's own promise -/
def spLaw (K : PySem.W.Frag) : Sp := fun vs H Q _ => ∃ (a : Addr) (ns : List Int), vs = [.ref a] ∧ SqL K H a (ns.map V.int) ∧ ns.length ≤ 63 ∧ ∀ H', Q (.bl true) H'
theorem law_start {K : PySem.W.Frag} {mg : Str → Option Value} {f : MF} (L : ∀ ns : List Int, ns.length ≤ 63 → ∃ h, f [.frz (ns.map MV.int)] [] = ok (.bl true) h) : ∀ vs H Q E, spLaw K vs H Q E → spM K mg 1 f vs H Q E := fun vs H Q E ⟨a, ns, e, hS, hl, k⟩ => by
  subst e
  have S : Sim K ⟨fun _ => none, 0, H, fun _ => False⟩ [] := ⟨rfl, fun _ _ e => (by cases e), fun _ _ _ e => (by cases e), fun _ _ e => (by cases e), fun _ _ e => (by simp at e), fun _ _ e => (by cases e), fun _ e => e.elim⟩
  have rs : RVs K ⟨fun _ => none, 0, H, fun _ => False⟩ (ns.map MV.int) (ns.map V.int) := by
    clear hl hS
    induction ns with
    | nil => exact .nil
    | cons i l ih => exact .cons (.int i) ih
  refine ⟨⟨fun _ => none, 0, H, fun _ => False⟩, [], [.frz (ns.map MV.int)], rfl, S, .cons ?_ .nil, rfl, ?_⟩
  · rcases hS with hS | hS
    · exact .frz ⟨fun _ e => (by cases e), fun e => e.elim⟩ hS rs
    · exact .frzK (fun _ => .inr hS) rs
  · obtain ⟨h, e⟩ := L ns hl
    rw [e]
    intro W1 x1 S1 v rv
    rw [rv_bl rv]
    exact k _
end Mi
set_option maxHeartbeats 2000000
/-! Mi: how to reckon with mirrors: loops, comprehensions, heaps that are kept, lists of lists. -/
namespace Mi
open PySem L2
/-! ### heaps -/
/-- all places are as they were, but those for which P holds -/
structure Keep (P : Nat → Prop) (h h' : MH) : Prop where
  le : h.length ≤ h'.length
  at_ : ∀ j, j < h.length → ¬ P j → h'[j]? = h[j]?
theorem at_len {h : MH} {l : Nat} {o : MO} (e : h[l]? = some o) : l < h.length := (List.getElem?_eq_some_iff.mp e).1
theorem Keep.refl {P : Nat → Prop} (h : MH) : Keep P h h := ⟨Nat.le_refl _, fun _ _ _ => rfl⟩
theorem Keep.trans {P : Nat → Prop} {h h1 h2 : MH} (a : Keep P h h1) (b : Keep P h1 h2) : Keep P h h2 := ⟨Nat.le_trans a.le b.le, fun j hj hp => (b.at_ j (Nat.lt_of_lt_of_le hj a.le) hp).trans (a.at_ j hj hp)⟩
theorem Keep.weak {P Q : Nat → Prop} {h h1 : MH} (a : Keep P h h1) (i : ∀ j, j < h.length → P j → Q j) : Keep Q h h1 := ⟨a.le, fun j hj hp => a.at_ j hj fun z => hp (i j hj z)⟩
theorem Keep.get {P : Nat → Prop} {h h' : MH} (a : Keep P h h') {j : Nat} {o : MO} (e : h[j]? = some o) (hp : ¬ P j) : h'[j]? = some o := (a.at_ j (at_len e) hp).trans e
theorem Keep.set {P : Nat → Prop} {h h' : MH} {l : Nat} {o : MO} (a : Keep P h h') (hl : l < h.length → P l) : Keep P h (h'.set l o) := ⟨by rw [List.length_set]; exact a.le, fun j hj hp => by
  rw [List.getElem?_set_ne (fun z => hp (by rw [← z]; exact hl (by rw [z]; exact hj)))]
  exact a.at_ j hj hp⟩
theorem Keep.app {P : Nat → Prop} {h h' : MH} {o : MO} (a : Keep P h h') : Keep P h (h' ++ [o]) := ⟨by
  rw [List.length_append]
  exact Nat.le_trans a.le (Nat.le_add_right _ _), fun j hj hp => by
  rw [List.getElem?_append_left (Nat.lt_of_lt_of_le hj a.le)]
  exact a.at_ j hj hp⟩
theorem get_app {h : MH} {o : MO} : (h ++ [o])[h.length]? = some o := by simp
theorem get_app_left {h : MH} {o u : MO} {j : Nat} (e : h[j]? = some u) : (h ++ [o])[j]? = some u := by
  rw [List.getElem?_append_left (at_len e)]
  exact e
theorem get_set {h : MH} {o u : MO} {l : Nat} (e : h[l]? = some u) : (h.set l o)[l]? = some o := List.getElem?_set_self (at_len e)
theorem get_set_ne {h : MH} {o u : MO} {l j : Nat} (e : h[j]? = some u) (n : j ≠ l) : (h.set l o)[j]? = some u := by
  rw [List.getElem?_set_ne (Ne.symm n)]
  exact e
/-! ### loops -/
/-- the loop runs through: each turn goes on -/
theorem forS_ok {bd : MV → MT} (I : Nat → MS → MH → Prop) : ∀ {xs : List MV} {i0 : Nat} {s : MS} {h : MH}, (∀ i x s h, xs[i]? = some x → I (i0 + i) s h → ∃ s' h', (bd x s h = some (.nx s' h') ∨ bd x s h = some (.cnt s' h')) ∧ I (i0 + i + 1) s' h') → I i0 s h →
    ∃ s' h', forS bd xs s h = some (.nx s' h') ∧ I (i0 + xs.length) s' h'
  | [], i0, s, h, _, h0 => ⟨s, h, rfl, h0⟩
  | x :: xs, i0, s, h, hs, h0 => by
    obtain ⟨s1, h1, e, q⟩ := hs 0 x s h rfl h0
    obtain ⟨s2, h2, e2, q2⟩ := forS_ok I (xs := xs) (i0 := i0 + 1) (s := s1) (h := h1) (fun i y s h hy hi => by
      obtain ⟨s', h', e', q'⟩ := hs (i + 1) y s h (by simpa using hy) (by rw [show i0 + (i + 1) = i0 + 1 + i by omega]; exact hi)
      exact ⟨s', h', e', by rw [show i0 + 1 + i + 1 = i0 + (i + 1) + 1 by omega]; exact q'⟩) q
    refine ⟨s2, h2, ?_, by rw [List.length_cons, show i0 + (xs.length + 1) = i0 + 1 + xs.length by omega]; exact q2⟩
    unfold forS
    rcases e with e | e <;> rw [e] <;> exact e2
/-- over range(n) -/
theorem for_run {g : MV → MS → Option MS} {m : MT} (I : Nat → MS → MH → Prop) {a : Int} {n : Nat} {s : MS} {h : MH} (h0 : I 0 s h)
    (hs : ∀ i s h, i < n → I i s h → ∃ s' h', (turnM g m (.int (a + (i : Int))) s h = some (.nx s' h') ∨ turnM g m (.int (a + (i : Int))) s h = some (.cnt s' h')) ∧ I (i + 1) s' h') : ∃ s' h', forS (turnM g m) (runOf a n) s h = some (.nx s' h') ∧ I n s' h' := by
  have := forS_ok (bd := turnM g m) I (xs := runOf a n) (i0 := 0) (s := s) (h := h) (fun i x s h hx hi => by
    obtain ⟨q, e⟩ := runOf_get hx
    subst e
    rw [Nat.zero_add] at hi
    obtain ⟨s', h', e', q'⟩ := hs i s h q hi
    exact ⟨s', h', e', by rw [Nat.zero_add]; exact q'⟩) h0
  rw [runOf_len, Nat.zero_add] at this
  exact this
/-- a comprehension whose parts leave the heap alone -/
theorem lcS_pure {g : MV → MS → Option MS} {cd : MM Bool} {el : ME} {s0 : MS} {h : MH} (c : MV → Bool) (e : MV → MV) : ∀ {xs acc : List MV}, (∀ x ∈ xs, ∃ s1, g x s0 = some s1 ∧ cd s1 h = ok (c x) h ∧ (c x = true → el s1 h = ok (e x) h)) → acc.length + xs.length ≤ lim →
    lcS g cd el s0 xs acc h = ok (acc ++ (xs.filter c).map e) h
  | [], acc, _, _ => by
    show ok acc h = _
    rw [List.filter_nil, List.map_nil, List.append_nil]
  | x :: xs, acc, hs, hl => by
    obtain ⟨s1, e1, e2, e3⟩ := hs x (List.mem_cons_self ..)
    rw [List.length_cons] at hl
    have ih := fun acc h => lcS_pure c e (xs := xs) (acc := acc) (fun y hy => hs y (List.mem_cons_of_mem _ hy)) h
    unfold lcS
    rw [e1]
    show (cd s1 h).bnd _ = _
    rw [e2, bnd_ok]
    cases hc : c x with
    | false =>
      rw [if_neg Bool.false_ne_true, ih acc (by omega), List.filter_cons_of_neg (by rw [hc]; exact Bool.false_ne_true)]
    | true =>
      rw [if_pos rfl, e3 hc, bnd_ok, if_pos (by omega), ih (acc ++ [e x]) (by rw [List.length_append]; show acc.length + 1 + xs.length ≤ lim; omega), List.filter_cons_of_pos hc, List.map_cons, List.append_assoc]
      rfl
/-- one over range(n) -/
theorem lc_run {g : MV → MS → Option MS} {cd : MM Bool} {el : ME} {s0 : MS} {h : MH} {n : Nat} (c : Nat → Bool) (e : Nat → MV) (hn : n ≤ lim) (hs : ∀ i, i < n → ∃ s1, g (.int (i : Int)) s0 = some s1 ∧ cd s1 h = ok (c i) h ∧ (c i = true → el s1 h = ok (e i) h)) :
    lcS g cd el s0 (runOf 0 n) [] h = ok (((List.range n).filter c).map e) h := by
  have nat : ∀ i : Nat, ((0 : Int) + (i : Int)) = (i : Int) := fun i => Int.zero_add _
  have := lcS_pure (g := g) (cd := cd) (el := el) (s0 := s0) (h := h) (fun x => match x with | .int i => c i.toNat | _ => false) (fun x => match x with | .int i => e i.toNat | _ => .non) (xs := runOf 0 n) (acc := []) (fun x hx => by
    obtain ⟨i, hi, ex⟩ := List.mem_map.mp hx
    rw [nat] at ex
    subst ex
    obtain ⟨s1, a1, a2, a3⟩ := hs i (List.mem_range.mp hi)
    exact ⟨s1, a1, by simpa using a2, fun q => by simpa using a3 (by simpa using q)⟩) (by rw [runOf_len]; simpa using hn)
  rw [this, List.nil_append]
  unfold runOf
  rw [List.filter_map, List.map_map]
  have q1 : ((fun x : MV => match x with | .int i => c i.toNat | _ => false) ∘ fun (i : Nat) => MV.int ((0 : Int) + (i : Int))) = c := by
    funext i
    show c ((0 : Int) + (i : Int)).toNat = c i
    rw [nat, Int.toNat_natCast]
  have q2 : ((fun x : MV => match x with | .int i => e i.toNat | _ => MV.non) ∘ fun (i : Nat) => MV.int ((0 : Int) + (i : Int))) = e := by
    funext i
    show e ((0 : Int) + (i : Int)).toNat = e i
    rw [nat, Int.toNat_natCast]
  rw [q1, q2]
/-- a comprehension that changes the heap -/
theorem lcS_ok {g : MV → MS → Option MS} {cd : MM Bool} {el : ME} {s0 : MS} (I : Nat → List MV → MH → Prop) : ∀ {xs : List MV} {i0 : Nat} {acc : List MV} {h : MH}, (∀ i x acc h, xs[i]? = some x → I (i0 + i) acc h → ∃ s1, g x s0 = some s1 ∧ ∃ b h1, cd s1 h = ok b h1 ∧
      (b = true → ∃ y h2, el s1 h1 = ok y h2 ∧ acc.length < lim ∧ I (i0 + i + 1) (acc ++ [y]) h2) ∧ (b = false → I (i0 + i + 1) acc h1)) → I i0 acc h →
    ∃ acc' h', lcS g cd el s0 xs acc h = ok acc' h' ∧ I (i0 + xs.length) acc' h'
  | [], i0, acc, h, _, h0 => ⟨acc, h, rfl, h0⟩
  | x :: xs, i0, acc, h, hs, h0 => by
    obtain ⟨s1, e1, b, h1, e2, ht, hf⟩ := hs 0 x acc h rfl h0
    have ih := fun acc' h' => lcS_ok I (g := g) (cd := cd) (el := el) (s0 := s0) (xs := xs) (i0 := i0 + 1) (acc := acc') (h := h') (fun i y acc h hy hi => by
      obtain ⟨s2, a1, b', h', a2, a3, a4⟩ := hs (i + 1) y acc h (by simpa using hy) (by rw [show i0 + (i + 1) = i0 + 1 + i by omega]; exact hi)
      exact ⟨s2, a1, b', h', a2, by rw [show i0 + 1 + i + 1 = i0 + (i + 1) + 1 by omega]; exact a3, by rw [show i0 + 1 + i + 1 = i0 + (i + 1) + 1 by omega]; exact a4⟩)
    unfold lcS
    rw [e1]
    show ∃ acc' h', (cd s1 h).bnd _ = _ ∧ _
    rw [e2, List.length_cons, show i0 + (xs.length + 1) = i0 + 1 + xs.length by omega]
    simp only [bnd_ok]
    cases b with
    | false =>
      simp only [if_neg Bool.false_ne_true]
      exact ih acc h1 (hf rfl)
    | true =>
      obtain ⟨y, h2, e3, hl, q⟩ := ht rfl
      simp only [if_pos, e3, bnd_ok, if_pos hl]
      exact ih (acc ++ [y]) h2 q
theorem lc_runH {g : MV → MS → Option MS} {cd : MM Bool} {el : ME} {s0 : MS} {n : Nat} (I : Nat → List MV → MH → Prop) {h : MH} (h0 : I 0 [] h) (hs : ∀ i acc h, i < n → I i acc h → ∃ s1, g (.int (i : Int)) s0 = some s1 ∧ ∃ b h1, cd s1 h = ok b h1 ∧
      (b = true → ∃ y h2, el s1 h1 = ok y h2 ∧ acc.length < lim ∧ I (i + 1) (acc ++ [y]) h2) ∧ (b = false → I (i + 1) acc h1)) : ∃ acc' h', lcS g cd el s0 (runOf 0 n) [] h = ok acc' h' ∧ I n acc' h' := by
  have := lcS_ok (g := g) (cd := cd) (el := el) (s0 := s0) I (xs := runOf 0 n) (i0 := 0) (acc := []) (h := h) (fun i x acc h hx hi => by
    obtain ⟨q, e⟩ := runOf_get hx
    rw [Int.zero_add] at e
    subst e
    rw [Nat.zero_add] at hi ⊢
    exact hs i acc h q hi) h0
  rw [runOf_len, Nat.zero_add] at this
  exact this
/-! ### places by numbers -/
theorem ixN_nat {n j : Nat} (hj : j < n) : ixN n (j : Int) = some j := by
  unfold ixN
  rw [if_pos (by omega), if_pos (by omega)]
  simp
theorem ix_lst {h : MH} {x : MV} {xs : List MV} {j : Nat} {y : MV} (hx : seqOf h x = some xs) (e : xs[j]? = some y) (hs : ∀ z, x ≠ .str z := by intro _ z; cases z) : ixF x (.int (j : Int)) h = ok y h := by
  cases x <;> first | exact absurd rfl (hs _) | (unfold ixF; dsimp only; rw [hx]; dsimp only; rw [atI_nat e])
theorem ix_ref {h : MH} {l : Nat} {xs : List MV} {j : Nat} {y : MV} (hx : h[l]? = some (.lst xs)) (e : xs[j]? = some y) : ixF (.ref l) (.int (j : Int)) h = ok y h := ix_lst (by show (match h[l]? with | some (.lst xs) => some xs | _ => none) = some xs; rw [hx]) e
theorem wr_ref {h : MH} {l : Nat} {xs : List MV} {j : Nat} {y : MV} (hx : h[l]? = some (.lst xs)) (e : j < xs.length) : wrF l (j : Int) y h = some (h.set l (.lst (xs.set j y))) := by
  unfold wrF
  rw [hx]
  dsimp only
  rw [ixN_nat e]
/-! ### lists of lists -/
theorem nd_set : ∀ {rs : List Nat} {i a : Nat}, rs.Nodup → a ∉ rs → (rs.set i a).Nodup
  | [], _, _, _, _ => by simp
  | r :: rs, 0, a, n, q => by
    rw [List.set_cons_zero]
    exact List.nodup_cons.mpr ⟨fun z => q (List.mem_cons_of_mem _ z), (List.nodup_cons.mp n).2⟩
  | r :: rs, i + 1, a, n, q => by
    rw [List.set_cons_succ]
    refine List.nodup_cons.mpr ⟨fun z => ?_, nd_set (List.nodup_cons.mp n).2 fun z => q (List.mem_cons_of_mem _ z)⟩
    rcases List.mem_or_eq_of_mem_set z with z | z
    · exact (List.nodup_cons.mp n).1 z
    · exact q (by rw [← z]; exact List.mem_cons_self ..)
structure Mat (h : MH) (R : Nat) (rows : List (List MV)) (lo : Nat) (rs : List Nat) : Prop where
  top : h[R]? = some (.lst (rs.map MV.ref))
  len : rs.length = rows.length
  nd : rs.Nodup
  no : R ∉ rs
  loR : lo ≤ R
  lor : ∀ r ∈ rs, lo ≤ r
  row : ∀ (i r : Nat) (xs : List MV), rs[i]? = some r → rows[i]? = some xs → h[r]? = some (.lst xs)
theorem Mat.getR {h : MH} {R lo : Nat} {rows : List (List MV)} {rs : List Nat} (M : Mat h R rows lo rs) {i : Nat} {xs : List MV} (e : rows[i]? = some xs) : ∃ r, rs[i]? = some r ∧ h[r]? = some (.lst xs) := by
  have hi : i < rs.length := by
    rw [M.len]
    exact (List.getElem?_eq_some_iff.mp e).1
  exact ⟨rs[i], List.getElem?_eq_getElem hi, M.row i _ xs (List.getElem?_eq_getElem hi) e⟩
/-- R[i] -/
theorem Mat.ix {h : MH} {R lo : Nat} {rows : List (List MV)} {rs : List Nat} (M : Mat h R rows lo rs) {i : Nat} {xs : List MV} (e : rows[i]? = some xs) : ∃ r, rs[i]? = some r ∧ h[r]? = some (.lst xs) ∧ ixF (.ref R) (.int (i : Int)) h = ok (.ref r) h := by
  obtain ⟨r, a, b⟩ := M.getR e
  exact ⟨r, a, b, ix_ref M.top (by rw [List.getElem?_map, a]; rfl)⟩
/-- R[i][j] = y -/
theorem Mat.wr {h : MH} {R lo : Nat} {rows : List (List MV)} {rs : List Nat} (M : Mat h R rows lo rs) {i r : Nat} {xs ys : List MV} (er : rs[i]? = some r) (e : rows[i]? = some xs) : Mat (h.set r (MO.lst ys)) R (rows.set i ys) lo rs where
  top := get_set_ne M.top fun z => M.no (by rw [z]; exact List.mem_of_getElem? er)
  len := by
    rw [List.length_set]
    exact M.len
  nd := M.nd
  no := M.no
  loR := M.loR
  lor := M.lor
  row := fun k r' zs hr hz => by
    by_cases hk : i = k
    · subst hk
      rw [er] at hr
      cases hr
      rw [List.getElem?_set_self (List.getElem?_eq_some_iff.mp e).1] at hz
      cases hz
      exact get_set (M.row i r xs er e)
    · rw [List.getElem?_set_ne hk] at hz
      refine get_set_ne (M.row k r' zs hr hz) fun z => hk ?_
      subst z
      exact nd_ix M.nd er hr
/-- R[i] = a new list -/
theorem Mat.put {h : MH} {R lo : Nat} {rows : List (List MV)} {rs : List Nat} (M : Mat h R rows lo rs) {i : Nat} {ys : List MV} (hlo : lo ≤ h.length) : Mat ((h ++ [MO.lst ys]).set R (MO.lst ((rs.set i h.length).map MV.ref))) R (rows.set i ys) lo (rs.set i h.length) := by
  have new : ∀ r ∈ rs, r < h.length := fun r hr => by
    obtain ⟨i, hi⟩ := List.getElem?_of_mem hr
    obtain ⟨xs, hx⟩ : ∃ xs, rows[i]? = some xs := ⟨_, List.getElem?_eq_getElem (by rw [← M.len]; exact (List.getElem?_eq_some_iff.mp hi).1)⟩
    exact at_len (M.row i r xs hi hx)
  have nR : R ≠ h.length := Nat.ne_of_lt (at_len M.top)
  have nin : h.length ∉ rs := fun z => Nat.lt_irrefl _ (new _ z)
  refine ⟨get_set (get_app_left M.top), by rw [List.length_set, List.length_set]; exact M.len, ?_, fun z => ?_, M.loR, fun r hr => ?_, fun k r zs hr hz => ?_⟩
  · exact nd_set M.nd nin
  · rcases List.mem_or_eq_of_mem_set z with z | z
    · exact M.no z
    · exact nR z
  · rcases List.mem_or_eq_of_mem_set hr with z | z
    · exact M.lor r z
    · rw [z]
      exact hlo
  · by_cases hk : i = k
    · subst hk
      have hi : i < rs.length := by
        have := (List.getElem?_eq_some_iff.mp hr).1
        rw [List.length_set] at this
        exact this
      rw [List.getElem?_set_self hi] at hr
      rw [List.getElem?_set_self (by rw [← M.len]; exact hi)] at hz
      cases hr
      cases hz
      exact get_set_ne get_app (Ne.symm nR)
    · rw [List.getElem?_set_ne hk] at hr hz
      have e := M.row k r zs hr hz
      exact get_set_ne (get_app_left e) fun z => M.no (by rw [← z]; exact List.mem_of_getElem? hr)
theorem Mat.keep {h h' : MH} {R lo : Nat} {rows : List (List MV)} {rs : List Nat} (M : Mat h R rows lo rs) {P : Nat → Prop} (k : Keep P h h') (hP : ∀ j, P j → j < lo) : Mat h' R rows lo rs := ⟨k.get M.top fun z => absurd (hP _ z) (by have := M.loR; omega), M.len, M.nd, M.no, M.loR, M.lor,
  fun i r xs hr hx => k.get (M.row i r xs hr hx) fun z => absurd (hP _ z) (by have := M.lor r (List.mem_of_getElem? hr); omega)⟩
/-- a value without places of the heap at its top -/
def flatT : MV → Bool
  | .ref _ => false
  | _ => true
theorem frzL_flat : ∀ {xs : List MV} (n : Nat) (h : MH), xs.all flatT = true → frzL (n + 1) xs h = some (xs, h)
  | [], n, h, _ => by
    unfold frzL
    rfl
  | x :: xs, n, h, e => by
    rw [List.all_cons, Bool.and_eq_true] at e
    unfold frzL
    have e1 : frzV (n + 1) x h = some (x, h) := by
      unfold frzV
      cases x <;> first | rfl | cases e.1
    rw [e1]
    dsimp only
    rw [frzL_flat n h e.2]
theorem frz_lst {h : MH} {l : Nat} {xs : List MV} (n : Nat) (e : h[l]? = some (.lst xs)) (hf : xs.all flatT = true) : frzV (n + 2) (.ref l) h = some (.fls xs, h.set l .dead) := by
  unfold frzV
  dsimp only
  rw [e]
  dsimp only
  rw [frzL_flat n h hf]
theorem frzL_rows {h : MH} {P : Nat → Prop} : ∀ {rs : List Nat} {rows : List (List MV)} {g : MH} (n : Nat), Keep P h g → (∀ r ∈ rs, r < h.length → P r) → rs.length = rows.length → rs.Nodup → (∀ (i r : Nat) (xs : List MV), rs[i]? = some r → rows[i]? = some xs → g[r]? = some (.lst xs) ∧ xs.all flatT = true) →
    ∃ g', frzL (n + 2) (rs.map MV.ref) g = some (rows.map MV.fls, g') ∧ Keep P h g' ∧ ∀ j, j ∉ rs → g'[j]? = g[j]?
  | [], [], g, n, k, _, _, _, _ => ⟨g, by unfold frzL; rfl, k, fun _ _ => rfl⟩
  | r :: rs, xs :: rows, g, n, k, hp, hl, nd, hr => by
    obtain ⟨e, f⟩ := hr 0 r xs rfl rfl
    obtain ⟨nd1, nd2⟩ := List.nodup_cons.mp nd
    obtain ⟨g', e2, k2, q2⟩ := frzL_rows (rs := rs) (rows := rows) (g := g.set r .dead) n (k.set (hp r (List.mem_cons_self ..))) (fun a ha => hp a (List.mem_cons_of_mem _ ha)) (by simpa using hl) nd2 (fun i a ys ha hy => by
      obtain ⟨e', f'⟩ := hr (i + 1) a ys (by simpa using ha) (by simpa using hy)
      exact ⟨get_set_ne e' fun z => nd1 (by rw [← z]; exact List.mem_of_getElem? ha), f'⟩)
    refine ⟨g', ?_, k2, fun j hj => ?_⟩
    · rw [List.map_cons, List.map_cons]
      unfold frzL
      rw [frz_lst n e f]
      dsimp only
      rw [e2]
    · rw [q2 j fun z => hj (List.mem_cons_of_mem _ z), List.getElem?_set_ne fun z => hj (by rw [z]; exact List.mem_cons_self ..)]
  | [], _ :: _, _, _, _, _, hl, _, _ => by simp at hl
  | _ :: _, [], _, _, _, _, hl, _, _ => by simp at hl
/-- the whole stands still -/
theorem Mat.frz {h0 h : MH} {R lo : Nat} {rows : List (List MV)} {rs : List Nat} (M : Mat h R rows lo rs) {P : Nat → Prop} (k : Keep P h0 h) (hlo : h0.length ≤ lo) (hf : ∀ xs ∈ rows, xs.all flatT = true) : ∃ h', frzV 4 (.ref R) h = some (.fls (rows.map MV.fls), h') ∧ Keep P h0 h' := by
  obtain ⟨g, e, k2, q⟩ := frzL_rows (h := h0) (P := P) (rs := rs) (rows := rows) (g := h) 1 k (fun r hr hlt => absurd (M.lor r hr) (by omega)) M.len M.nd fun i r xs hr hx => ⟨M.row i r xs hr hx, hf xs (List.mem_of_getElem? hx)⟩
  refine ⟨g.set R .dead, ?_, k2.set fun hlt => absurd M.loR (by omega)⟩
  unfold frzV
  dsimp only
  rw [M.top]
  dsimp only
  rw [e]
theorem keeps {P : Nat → Prop} {h : MH} (os : List MO) : Keep P h (h ++ os) := ⟨by
  rw [List.length_append]
  exact Nat.le_add_right _ _, fun j hj _ => List.getElem?_append_left hj⟩
/-- F 0, F 1, .. F (n - 1) -/
def tb {α : Type} (n : Nat) (F : Nat → α) : List α := (List.range n).map F
@[simp] theorem tb_len {α : Type} {n : Nat} {F : Nat → α} : (tb n F).length = n := by simp [tb]
theorem tb_get {α : Type} {n i : Nat} {F : Nat → α} (h : i < n) : (tb n F)[i]? = some (F i) := by simp [tb, h]
theorem tb_some {α : Type} {n i : Nat} {F : Nat → α} {x : α} (h : (tb n F)[i]? = some x) : i < n ∧ x = F i := by
  have hi := (List.getElem?_eq_some_iff.mp h).1
  rw [tb_len] at hi
  rw [tb_get hi] at h
  exact ⟨hi, (Option.some.inj h).symm⟩
theorem tb_mem {α : Type} {n : Nat} {F : Nat → α} {x : α} : x ∈ tb n F ↔ ∃ i, i < n ∧ F i = x := by simp [tb]
theorem tb_set {α : Type} {n i : Nat} {F : Nat → α} {y : α} : (tb n F).set i y = tb n fun k => if k = i then y else F k := by
  apply List.ext_getElem?
  intro j
  rw [List.getElem?_set]
  by_cases hj : j < n
  · rw [tb_get hj, tb_get hj, tb_len]
    by_cases hi : i = j
    · subst hi
      rw [if_pos rfl, if_pos hj, if_pos rfl]
    · rw [if_neg hi, if_neg (Ne.symm hi)]
  · have e : ∀ G : Nat → α, (tb n G)[j]? = none := fun G => List.getElem?_eq_none (by rw [tb_len]; omega)
    rw [e, e, tb_len]
    by_cases hi : i = j
    · subst hi
      rw [if_pos rfl, if_neg hj]
    · rw [if_neg hi]
theorem tb_map {α β : Type} {n : Nat} {F : Nat → α} {G : α → β} : (tb n F).map G = tb n fun k => G (F k) := by simp [tb]
theorem tb_congr {α : Type} {n : Nat} {F G : Nat → α} (h : ∀ i, i < n → F i = G i) : tb n F = tb n G := List.map_congr_left fun i hi => h i (List.mem_range.mp hi)
theorem tb_succ {α : Type} {n : Nat} {F : Nat → α} : tb (n + 1) F = tb n F ++ [F n] := by simp [tb, List.range_succ]
theorem tb_nd {n a : Nat} : (tb n fun k => a + k).Nodup := by
  unfold tb
  refine List.Pairwise.map _ (R := (· ≠ ·)) (S := (· ≠ ·)) (fun x y h => by omega) List.nodup_range
/-- all of range(n), with no test -/
theorem lc_tb {g : MV → MS → Option MS} {el : ME} {s0 : MS} {h : MH} {n : Nat} (e : Nat → MV) (hn : n ≤ lim) (hs : ∀ i, i < n → ∃ s1, g (.int (i : Int)) s0 = some s1 ∧ el s1 h = ok (e i) h) :
    lcS g yesT el s0 (runOf 0 n) [] h = ok (tb n e) h := by
  have := lc_run (g := g) (cd := yesT) (el := el) (s0 := s0) (h := h) (fun _ => true) e hn fun i hi => by
    obtain ⟨s1, a, b⟩ := hs i hi
    exact ⟨s1, a, rfl, fun _ => b⟩
  rw [show (List.range n).filter (fun _ => true) = List.range n from List.filter_eq_self.mpr fun _ _ => rfl] at this
  exact this
/-- a list of new lists -/
theorem lc_refs {g : MV → MS → Option MS} {s0 : MS} {h : MH} {n : Nat} {m : MM (List MV)} (row : Nat → List MV) (hn : n ≤ lim) (hs : ∀ i h, i < n → ∃ s1, g (.int (i : Int)) s0 = some s1 ∧ m s1 h = ok (row i) h) :
    lcS g yesT (refM m) s0 (runOf 0 n) [] h = ok (tb n fun k => MV.ref (h.length + k)) (h ++ tb n fun k => MO.lst (row k)) := by
  obtain ⟨acc, h', e, e1, e2⟩ := lc_runH (g := g) (cd := yesT) (el := refM m) (s0 := s0) (n := n) (h := h) (fun i acc h' => acc = (tb i fun k => MV.ref (h.length + k)) ∧ h' = h ++ tb i fun k => MO.lst (row k)) ⟨rfl, by simp [tb]⟩ (fun i acc h' hi ⟨e1, e2⟩ => by
    obtain ⟨s1, a, b⟩ := hs i h' hi
    refine ⟨s1, a, true, h', rfl, fun _ => ⟨.ref h'.length, h' ++ [.lst (row i)], ?_, ?_, ?_, ?_⟩, fun z => nomatch z⟩
    · show (m s1 h').bnd _ = _
      rw [b]
      rfl
    · rw [e1, tb_len]
      omega
    · rw [e1, e2, tb_succ, List.length_append, tb_len]
    · rw [e2, tb_succ, List.append_assoc])
  rw [e, e1, e2]
theorem mat_init {h : MH} {n : Nat} (row : Nat → List MV) : Mat (h ++ ((tb n fun k => MO.lst (row k)) ++ [MO.lst (tb n fun k => MV.ref (h.length + k))])) (h.length + n) (tb n row) h.length (tb n fun k => h.length + k) := by
  have e : h ++ ((tb n fun k => MO.lst (row k)) ++ [MO.lst (tb n fun k => MV.ref (h.length + k))]) = (h ++ tb n fun k => MO.lst (row k)) ++ [MO.lst (tb n fun k => MV.ref (h.length + k))] := by rw [List.append_assoc]
  refine ⟨?_, by rw [tb_len, tb_len], tb_nd, fun z => ?_, by omega, fun r hr => ?_, fun i r xs hr hx => ?_⟩
  · rw [e, tb_map]
    have : h.length + n = (h ++ tb n fun k => MO.lst (row k)).length := by rw [List.length_append, tb_len]
    rw [this]
    exact get_app
  · obtain ⟨i, hi, q⟩ := tb_mem.mp z
    omega
  · obtain ⟨i, hi, q⟩ := tb_mem.mp hr
    omega
  · obtain ⟨hi, e1⟩ := tb_some hr
    obtain ⟨_, e2⟩ := tb_some hx
    subst e1
    subst e2
    rw [e]
    refine get_app_left ?_
    rw [List.getElem?_append_right (by omega), show h.length + i - h.length = i by omega, tb_get hi]
/-- a table of truth values, standing still -/
def matV (n k : Nat) (f : Nat → Nat → Bool) : MV := .fls (tb n fun x => .fls (tb k fun y => .bl (f x y)))
end Mi
set_option maxHeartbeats 2000000
/-! Mi: enumerate over what stands still, dicts by numbers and texts. -/
namespace Mi
open PySem L2
/-! ### enumerate(v), one argument -/
set_option maxHeartbeats 1000000 in
theorem enum1_meets {v : Value} {o : Obj} {Fr : Heap → Prop} (B : Begins v o Fr) :
    Meets (Builtin.«enumerate.__new__» ⟨[.type "enumerate", v], []⟩) (fun _ R s => Fr s.heap ∧ R (.ok (.ret (.ref (s.heap.push o).objs.size)))
        { s with heap := (s.heap.push o).push { cls := .type "enumerate", data := .fields #[.none, .bool false, .ref s.heap.objs.size, rawInt 0, .none, .none] } }) :=
  .of_wp fun pr wo A R st h => by
    obtain ⟨hp, g, d, tk, os⟩ := st
    obtain ⟨h1, h2⟩ := h
    have sub1 := sub_enumerate
    have it1 : ∀ {A' : Around} {E : Value → Shared → Prop} {Q : Value → Shared → Prop}, Q (.ref hp.objs.size) ⟨hp.push o, g, d, tk, os⟩ → wpAny (model pr wo) A' (pyIter v) Q E ⟨hp, g, d, tk, os⟩ := fun q => B.iter pr wo _ _ ⟨hp, g, d, tk, os⟩ _ h1 q
    wp_walk using it1
    refine wpAny_stack_any fun _ => wpAny_pure ?_
    split
    · rename_i cc _ _ _ _ _
      cases (cc == Value.type "enumerate") <;> (wp_walk using it1; exact ⟨_, rfl, h2⟩)
    · wp_walk using it1
      exact ⟨_, rfl, h2⟩
theorem enum1_call {prog : Program} {w : World} {A : Around} {E : Value → Shared → Prop} {s : Shared} {v : Value} {o : Obj} {Fr : Heap → Prop} {Q : Value → Shared → Prop} (B : Begins v o Fr) (h1 : Fr s.heap)
    (h : ∀ g, IsEnum g (s.heap.objs.size + 1) s.heap.objs.size 0 .none → g.get? s.heap.objs.size = some o → (∀ b u, s.heap.get? b = some u → g.get? b = some u) → Q (.ref (s.heap.objs.size + 1)) { s with heap := g }) :
    wpAny (model prog w) A (call (.type "enumerate") [v]) Q E s := by
  refine callType_new F.called_enumerate (by decide) (F.typeCall_enumerate_1 _) (F.newCall_enumerate_1 _) (fun obj => F.args_object_init_2 obj _) F.entry_enumerate_new (enum1_meets B) ⟨h1, ?_⟩
  have z : (s.heap.push o).objs.size = s.heap.objs.size + 1 := Heap.size_push ..
  show _ ∧ _
  rw [z]
  have e1 : IsEnum ((s.heap.push o).push { cls := .type "enumerate", data := .fields #[.none, .bool false, .ref s.heap.objs.size, rawInt 0, .none, .none] }) (s.heap.objs.size + 1) s.heap.objs.size 0 .none := by
    have q := Heap.get?_push_size (s.heap.push o) (o := { cls := .type "enumerate", data := .fields #[.none, .bool false, .ref s.heap.objs.size, rawInt 0, .none, .none] }) rfl
    rw [z] at q
    exact q
  exact ⟨⟨_, e1, rfl⟩, h _ e1 (Heap.get?_push_of_some _ (Heap.get?_push_size _ B.free)) fun b u x => Heap.get?_push_of_some _ (Heap.get?_push_of_some _ x)⟩
theorem enumT_end {prog : Program} {w : World} {A : Around} {E : Value → Shared → Prop} {s : Shared} {e it l : Addr} {i : Nat} {items : Array Value} {old : Value} {Q : Option Value → Shared → Prop} (hh : A.handled = none) (he : IsEnum s.heap e it i old)
    (hit : s.heap.IsTupleIter it l i) (hl : s.heap.IsTuple l items) (hx : items[i]? = none) (hQ : ∀ g, Heap.ExtBut it s.heap g → Q none { s with heap := g }) : wpAny (model prog w) A (pyNext (.ref e)) Q E s := by
  have ty : s.TypeIs (.ref e) "enumerate" := ⟨_, he, rfl⟩
  unfold pyNext
  refine wpAny_bind (wpAny_attempt (wpAny_callSpecial?_slot (name := Str.ofString "__next__") ty F.slot_enumerate_next (wpAny_call_entry F.slot_enumerate_next ty F.entry_enumerate_next ?_ (F.args_enumerate_next_1 _))))
  show wpAny _ _ (field (.ref e) 2 >>= _) _ _ _
  refine wpAny_bind (wpAny_field he rfl (x := .ref it) rfl (wpAny_bind (wpAny_nextOf_tuple_end hh hit hl hx fun g x eg hx' => ?_)))
  obtain ⟨o, ho, hc⟩ := hx'
  exact wpAny_bind (wpAny_isInstance (T := "StopIteration") (b := true) ⟨o, ho, hc⟩ isSubtype_stop (wpAny_pure (hQ _ eg)))
/-- the tuple at a, each item in a new pair -/
def Itu (K : PySem.W.Frag) (a : Addr) : It :=
  ⟨fun i H => ∃ (xs : List V) (x : V), SqT K H a xs ∧ xs[i]? = some x, fun i H v H' => ∃ T x, v = .ref T ∧ H T = none ∧ H' = upd H T (.tup [.int (i : Nat), x]) ∧ ∀ xs, SqT K H a xs → xs[i]? = some x, fun i H => ∃ xs : List V, SqT K H a xs ∧ xs.length ≤ i⟩
theorem turn_enumT {P : Program} {w : World} {K : PySem.W.Frag} {elts : List Expr} {kk : Nat} {tpos : Pos} (a e it : Addr) :
    Turn P w K (.Tuple elts kk tpos) (Itu K a) [e, it] e (fun i h => (∃ old, IsEnum h e it ((i : Nat) : Int) old) ∧ h.IsTupleIter it a i ∧ e ≠ it) where
  mem := by simp
  obj := fun i h st b hb => by
    obtain ⟨⟨old, he⟩, ⟨o, ho, hc, hd⟩, _⟩ := st
    rcases (show b = e ∨ b = it by simpa using hb) with z | z <;> rw [z]
    · exact ⟨_, he, fun v q => nomatch q⟩
    · exact ⟨o, ho, fun v q => by rw [hd] at q; cases q⟩
  keep := fun i h h' st k => ⟨⟨st.1.choose, k e (by simp) _ st.1.choose_spec⟩, st.2.1.at fun o q => k it (by simp) o q, st.2.2⟩
  item := by
    intro X hP hw hK hc i pins s σ H E I hf st hg
    subst hP hw hK
    obtain ⟨⟨old, he⟩, hit, hne⟩ := st
    obtain ⟨xs, x, hq, hx⟩ := hg
    obtain ⟨its, rv, p, hz⟩ := I.tuple hq
    obtain ⟨u, hu, ru⟩ := rv.get hx
    have pt : s.heap.IsTuple a its.toArray := p
    have hai : a ≠ it := fun z => by
      subst z
      obtain ⟨o1, a1, a2, _⟩ := pt
      obtain ⟨o2, b1, b2, _⟩ := hit
      rw [a1] at b1
      cases b1
      rw [a2] at b2
      exact absurd b2 (by decide)
    have hae : e ≠ a := fun z => by
      subst z
      obtain ⟨o1, a1, a2, _⟩ := pt
      have he' := he
      unfold IsEnum at he'
      rw [a1] at he'
      cases he'
      exact absurd (show Value.type "enumerate" = Value.type "tuple" from a2) (by decide)
    have hel : e < s.heap.objs.size := Heap.lt_size he
    have hil : it < s.heap.objs.size := hit.elim fun _ q => Heap.lt_size q.1
    have hlt : i < its.toArray.size := by
      have := (List.getElem?_eq_some_iff.mp hu).1
      simpa using this
    refine wpAny_pyNext_enum_itemC (Draws.tuple (A := X.A.in1) (I.ok.hd hc) it a hai its.toArray) he ⟨hit, pt⟩ hlt hne (by simp [hne, hae]) fun x' h' tk hP ho hs' hT hsz hk => ?_
    obtain rfl : x' = u := by
      have : its[i]? = some x' := by simpa using hP
      rw [hu] at this
      exact (Option.some.inj this).symm
    refine ⟨_, rfl, wpAny_letOwnedTupleGo_enum (s := { s with heap := h', toks := tk + 1 }) ho fun g he' sb => ?_⟩
    have hT2 : g.get? s.heap.objs.size = some { cls := .type "tuple", data := .seq #[.int i tk, x'] } := (sb.2 _ (Nat.ne_of_gt hel)).trans hT
    have new : ObjOk X.prog X.w (upd H s.heap.objs.size (.tup [.int (i : Nat), x])) g s.heap.objs.size (.tup [.int (i : Nat), x]) :=
      ⟨by show 2 ≤ sizeLine; decide, [.int i tk, x'], .cons ⟨_, rfl⟩ (.cons ru .nil), ⟨_, hT2, rfl, _, rfl⟩⟩
    have I1 : Inv X pins σ (upd H s.heap.objs.size (.tup [.int (i : Nat), x])) { s with heap := g, toks := tk + 1 } :=
      I.turnedNew (ch := [e, it]) (fun b ob hb q => (sb.2 b (fun z => hb (by simp [z]))).trans (hk b ob (fun z => hb (by simp [z])) (fun z => hb (by simp [z])) q)) hf (Nat.le_refl _) new
    refine ⟨.ref s.heap.objs.size, _, I1, rfl, ⟨_, x, rfl, I.hok.fresh (Nat.le_refl _), rfl, fun ys hy => by rw [I.tuple_inj hy hq]; exact hx⟩, ⟨⟨x', ?_⟩, hs'.1.at fun o q => (sb.2 it (Ne.symm hne)).trans q, hne⟩, fun b hb => ?_⟩
    · rw [show ((i + 1 : Nat) : Int) = (i : Int) + 1 by omega]
      exact he'
    · have hb' : b < s.heap.objs.size := by
        rcases (show b = e ∨ b = it by simpa using hb) with z | z <;> rw [z]
        · exact hel
        · exact hil
      rw [upd_ne (Nat.ne_of_lt hb')]
      exact (hf b hb).1
  done := by
    intro X hP hw hK hc i pins s σ H E I hf st hg
    subst hP hw hK
    obtain ⟨⟨old, he⟩, hit, hne⟩ := st
    obtain ⟨xs, hq, hx⟩ := hg
    obtain ⟨its, rv, p, hz⟩ := I.tuple hq
    have pt : s.heap.IsTuple a its.toArray := p
    obtain ⟨f0, f1, f2, f3, f4, f5⟩ := hf it (by simp)
    have hl := rv.length
    exact enumT_end (I.ok.hd hc) he hit pt (by simp; omega) fun h' eb => ⟨rfl, I.turned (t' := s.toks) (fun b o hb e => eb b o hb e) f0 f1 f3 f4 f5⟩
  self := fun A i s Q E st h => wpAny_pyIter_enum st.1.choose_spec h
def iEn (K : PySem.W.Frag) (ta : TA) : TI := fun σ H R => ta σ H fun vs H1 => ∃ a, vs = [.ref a] ∧ ((∃ xs, SqL K H1 a xs ∧ R (Ite K a) H1) ∨ ∃ xs, SqT K H1 a xs ∧ R (Itu K a) H1)
theorem pi_en {X : Cx} {e : Expr} {ta : TA} {p pos tpos : Pos} {elts : List Expr} {kk : Nat} (hg : Gl X "enumerate") (hm : X.mg "enumerate" = none) (ha : PA X [e] ta) (hs : starEach [e] X.env = [(false, eval e X.env)] := by rfl) :
    PI X (.Tuple elts kk tpos) (.Call (.Name "enumerate" p) [e] [] pos) (iEn X.K ta) := by
  refine ⟨fun pins s σ H R I h => PyProof.Rows.Call_ (ld_blt I hg hm PyProof.Rows.boot_enumerate (PyProof.Rows.callWith_type1 (thn (ha.run pos pins s σ H _ I h) fun us s1 ⟨vs, H1, I1, r1, a, ex, q1⟩ => ?_) hs rfl))⟩
  subst ex
  obtain _ | ⟨r, rr⟩ := r1
  cases rr
  cases r
  have fp : ∀ b ∈ [s1.heap.objs.size + 1, s1.heap.objs.size], FpOk X pins H1 b := fun b hb => by
    have hle : s1.heap.objs.size ≤ b := by
      rcases (show b = s1.heap.objs.size + 1 ∨ b = s1.heap.objs.size by simpa using hb) with z | z <;> omega
    exact I1.fpOk hle (I1.hok.fresh hle)
  rcases q1 with ⟨xs, hq, q⟩ | ⟨xs, hq, q⟩
  · obtain ⟨its, rv, pl, hz⟩ := I1.list hq
    refine enum1_call (begins_list a its.toArray) pl.isList fun g he hit hk => wpAny_pyIter_enum he ?_
    exact ⟨s1.heap.objs.size + 1, [s1.heap.objs.size + 1, s1.heap.objs.size], _, _, H1, rfl, I1.kept (t' := s1.toks) hk, turn_enum a (s1.heap.objs.size + 1) s1.heap.objs.size, ⟨⟨.none, he⟩, ⟨_, hit, rfl, rfl⟩, Nat.succ_ne_self _⟩, fp, q⟩
  · obtain ⟨its, rv, pl, hz⟩ := I1.tuple hq
    refine enum1_call (begins_tuple a its.toArray) (show s1.heap.IsTuple a its.toArray from pl) fun g he hit hk => wpAny_pyIter_enum he ?_
    exact ⟨s1.heap.objs.size + 1, [s1.heap.objs.size + 1, s1.heap.objs.size], _, _, H1, rfl, I1.kept (t' := s1.toks) hk, turn_enumT a (s1.heap.objs.size + 1) s1.heap.objs.size, ⟨⟨.none, he⟩, ⟨_, hit, rfl, rfl⟩, Nat.succ_ne_self _⟩, fp, q⟩
/-- what stands still, by its items -/
def stOf : MV → Option (List MV)
  | .tup xs => some xs
  | .ktp xs => some xs
  | .fls xs => some xs
  | .frz xs => some xs
  | _ => none
def enmOf : Nat → List MV → List MV
  | _, [] => []
  | i, x :: xs => .tup [.int (i : Int), x] :: enmOf (i + 1) xs
theorem enm_len : ∀ {i : Nat} {xs : List MV}, (enmOf i xs).length = xs.length
  | _, [] => rfl
  | i, x :: xs => by
    show (enmOf (i + 1) xs).length + 1 = xs.length + 1
    rw [enm_len]
theorem enm_get : ∀ {i k : Nat} {xs : List MV}, (enmOf i xs)[k]? = (xs[k]?).map fun x => .tup [.int ((i + k : Nat) : Int), x]
  | _, _, [] => by simp [enmOf]
  | i, 0, x :: xs => rfl
  | i, k + 1, x :: xs => by
    show (enmOf (i + 1) xs)[k]? = (xs[k]?).map _
    rw [enm_get, show i + 1 + k = i + (k + 1) by omega]
@[simp ↓] def enmF (xs : List MV) (h : MH) : Res MIter := match xs with
  | [x] => match stOf x with
    | some ys => ok (.st (enmOf 0 ys)) h
    | none => none
  | _ => none
@[simp ↓] def enmI (m : MM (List MV)) : MM MIter := fun s h => (m s h).bnd enmF
section
variable {X : Cx} {c : XC} {K : PySem.W.Frag} {W : Wd}
/-- a new pair of a turn -/
theorem enm_yld {h : MH} {T : Addr} {i : Nat} {x : MV} {v : V} (S : Sim K W h) (hT : W.H T = none) (r : RV K W x v) : ∃ W2 : Wd, W2.H = upd W.H T (.tup [.int (i : Nat), v]) ∧ Ext W W2 ∧ Sim K W2 h ∧ RV K W2 (.tup [.int ((0 + i : Nat) : Int), x]) (.ref T) := by
  have xp : Ext W (W.put T (.tup [.int (i : Nat), v])) := Ext.put S hT
  refine ⟨_, rfl, xp, Sim.put S hT, ?_⟩
  rw [Nat.zero_add]
  exact .tup (S.fresh hT) upd_same (.cons (.int _) (.cons (r.mono xp) .nil))
theorem jr_enL {x : MV} {u : V} {xs : List MV} {h : MH} (S : Sim K W h) (r : RV K W x u) (hx : x = .fls xs ∨ x = .frz xs) : ∃ a, u = .ref a ∧ (∃ vs, SqL K W.H a vs) ∧ JR K W (.st (enmOf 0 xs)) (Ite K a) := by
  have go : ∀ (W' : Wd), Ext W W' → ∀ h', Sim K W' h' → ∃ a vs, u = .ref a ∧ SqL K W'.H a vs ∧ RVs K W' xs vs := fun W' x' h' S' => by
    have r' := r.mono x'
    rcases hx with e | e <;> subst e <;> exact lst_sq (h := h') S' r' rfl
  obtain ⟨a, vs, e1, e2, t⟩ := go W (Ext.refl W) h S
  refine ⟨a, e1, ⟨vs, e2⟩, fun i W' h' x' S' => ?_⟩
  obtain ⟨b, ws, f1, f2, t'⟩ := go W' x' h' S'
  rw [e1] at f1
  cases f1
  refine ⟨fun y hy => ?_, fun hi => ⟨ws, f2, by rw [← t'.length, ← enm_len (i := 0)]; exact hi⟩⟩
  rw [enm_get] at hy
  cases hx0 : xs[i]? with
  | none =>
    rw [hx0] at hy
    cases hy
  | some x0 =>
    rw [hx0] at hy
    cases hy
    obtain ⟨v, hv, rv⟩ := t'.get hx0
    refine ⟨⟨ws, v, f2, hv⟩, fun v2 H2 ⟨T, z, e, hT, eh, y2⟩ => ?_⟩
    have q := y2 ws f2
    rw [hv] at q
    cases q
    subst e
    subst eh
    exact enm_yld S' hT rv
theorem jr_enT {x : MV} {u : V} {xs : List MV} {h : MH} (S : Sim K W h) (r : RV K W x u) (hx : x = .tup xs ∨ x = .ktp xs) : ∃ a, u = .ref a ∧ (∃ vs, SqT K W.H a vs) ∧ JR K W (.st (enmOf 0 xs)) (Itu K a) := by
  have sq : ∀ {W' : Wd}, RV K W' x u → ∃ p vs, u = .ref p ∧ SqT K W'.H p vs ∧ RVs K W' xs vs := fun r => by
    rcases hx with e | e <;> subst e
    · exact tup_sq r
    · exact ktp_sq r
  obtain ⟨a, vs, e1, e2, t⟩ := sq r
  refine ⟨a, e1, ⟨vs, e2⟩, fun i W' h' x' S' => ?_⟩
  obtain ⟨b, ws, f1, f2, t'⟩ := sq (r.mono x')
  rw [e1] at f1
  cases f1
  refine ⟨fun y hy => ?_, fun hi => ⟨ws, f2, by rw [← t'.length, ← enm_len (i := 0)]; exact hi⟩⟩
  rw [enm_get] at hy
  cases hx0 : xs[i]? with
  | none =>
    rw [hx0] at hy
    cases hy
  | some x0 =>
    rw [hx0] at hy
    cases hy
    obtain ⟨v, hv, rv⟩ := t'.get hx0
    refine ⟨⟨ws, v, f2, hv⟩, fun v2 H2 ⟨T, z, e, hT, eh, y2⟩ => ?_⟩
    have q := y2 ws f2
    rw [hv] at q
    cases q
    subst e
    subst eh
    exact enm_yld S' hT rv
theorem im_enm {e : Expr} {m : MM (List MV)} {p pos tpos : Pos} {elts : List Expr} {kk : Nat} (hg : Gl X "enumerate") (hm : X.mg "enumerate" = none) (ha : AM X c [e] m) (hs : starEach [e] X.env = [(false, eval e X.env)] := by rfl) :
    IM X c (.Tuple elts kk tpos) (.Call (.Name "enumerate" p) [e] [] pos) (enmI m) := pi_wk (pi_en hg hm ha hs) fun σ H R ⟨W, h, s, e, S, rs, p⟩ => by
  subst e
  refine ⟨W, h, s, rfl, S, rs, p.bnd fun W1 h1 xs x1 S1 p1 vs r1 => ?_⟩
  match xs, vs, r1, p1 with
  | [x], [v], .cons r .nil, p1 =>
    have p2 : Pst X.K c (CI X.K R) W1 (match stOf x with | some ys => ok (.st (enmOf 0 ys)) h1 | none => none) := p1
    cases x with
    | tup ys =>
      obtain ⟨a, e1, ⟨vs, e2⟩, j⟩ := jr_enT S1 r (.inl rfl)
      exact ⟨a, by rw [e1], .inr ⟨vs, e2, Pst.now p2 S1 _ j⟩⟩
    | ktp ys =>
      obtain ⟨a, e1, ⟨vs, e2⟩, j⟩ := jr_enT S1 r (.inr rfl)
      exact ⟨a, by rw [e1], .inr ⟨vs, e2, Pst.now p2 S1 _ j⟩⟩
    | fls ys =>
      obtain ⟨a, e1, ⟨vs, e2⟩, j⟩ := jr_enL S1 r (.inl rfl)
      exact ⟨a, by rw [e1], .inl ⟨vs, e2, Pst.now p2 S1 _ j⟩⟩
    | frz ys =>
      obtain ⟨a, e1, ⟨vs, e2⟩, j⟩ := jr_enL S1 r (.inr rfl)
      exact ⟨a, by rw [e1], .inl ⟨vs, e2, Pst.now p2 S1 _ j⟩⟩
    | _ => exact p2.elim
  | [], _, _, p1 => exact p1.elim
  | _ :: _ :: _, _, _, p1 => exact p1.elim
end
end Mi
set_option maxHeartbeats 2000000
/-! Mi: dicts whose keys are whole numbers or texts. -/
namespace Mi
open PySem L2
def keyOf : MV → Option Key
  | .int i => some (.inl i)
  | .str x => some (.inr x)
  | _ => none
def valM (kvs : List (Key × MV)) (k : Key) : Option MV := (kvs.find? fun p => decide (p.1 = k)).map (·.2)
def putM (kvs : List (Key × MV)) (k : Key) (v : MV) : List (Key × MV) :=
  if (kvs.any fun p => decide (p.1 = k)) = true then kvs.map (fun p => if p.1 = k then (p.1, v) else p) else kvs ++ [(k, v)]
section
variable {K : PySem.W.Frag} {W : Wd}
theorem key_V {x : MV} {v : V} {k : Key} (r : RV K W x v) (e : keyOf x = some k) : v = kV k := by
  cases x <;> first | (cases e; done) | skip
  · cases e
    rw [rv_int r]
    rfl
  · cases e
    cases r
    rfl
theorem RKV.length : ∀ {ms : List (Key × MV)} {vs : List (Key × V)}, RKV K W ms vs → ms.length = vs.length
  | _, _, .nil => rfl
  | _, _, .cons _ t => by rw [List.length_cons, List.length_cons, RKV.length t]
theorem RKV.val (k : Key) : ∀ {ms : List (Key × MV)} {vs : List (Key × V)}, RKV K W ms vs → (∀ x, valM ms k = some x → ∃ v, valV vs k = some v ∧ RV K W x v) ∧ (valM ms k).isSome = (valV vs k).isSome
  | _, _, .nil => ⟨fun x e => (nomatch e), rfl⟩
  | _, _, .cons (k := j) (x := y) (xs := ms) (vs := vs) r t => by
    obtain ⟨a, b⟩ := RKV.val k t
    by_cases h : j = k
    · have e : valM ((j, y) :: ms) k = some y := by simp [valM, List.find?_cons, h]
      rw [e, valV_pos h]
      exact ⟨fun x z => (by cases z; exact ⟨_, rfl, r⟩), rfl⟩
    · have e : valM ((j, y) :: ms) k = valM ms k := by simp [valM, List.find?_cons, h]
      rw [e, valV_neg h]
      exact ⟨a, b⟩
theorem RKV.any (k : Key) : ∀ {ms : List (Key × MV)} {vs : List (Key × V)}, RKV K W ms vs → (ms.any fun p => decide (p.1 = k)) = vs.any fun p => decide (p.1 = k)
  | _, _, .nil => rfl
  | _, _, .cons r t => by rw [List.any_cons, List.any_cons, RKV.any k t]
theorem RKV.app {k : Key} {x : MV} {v : V} (r : RV K W x v) : ∀ {ms : List (Key × MV)} {vs : List (Key × V)}, RKV K W ms vs → RKV K W (ms ++ [(k, x)]) (vs ++ [(k, v)])
  | _, _, .nil => .cons r .nil
  | _, _, .cons q t => .cons q (RKV.app r t)
theorem RKV.repl {k : Key} {x : MV} {v : V} (r : RV K W x v) : ∀ {ms : List (Key × MV)} {vs : List (Key × V)}, RKV K W ms vs → RKV K W (ms.map fun p => if p.1 = k then (p.1, x) else p) (vs.map fun p => if p.1 = k then (p.1, v) else p)
  | _, _, .nil => .nil
  | _, _, .cons (k := j) q t => by
    rw [List.map_cons, List.map_cons]
    by_cases h : j = k
    · rw [if_pos h, if_pos h]
      exact .cons r (RKV.repl r t)
    · rw [if_neg h, if_neg h]
      exact .cons q (RKV.repl r t)
theorem RKV.put {k : Key} {x : MV} {v : V} {ms : List (Key × MV)} {vs : List (Key × V)} (t : RKV K W ms vs) (r : RV K W x v) : RKV K W (putM ms k x) (putK vs k v) := by
  unfold putM putK
  rw [t.any k]
  by_cases h : (vs.any fun p => decide (p.1 = k)) = true
  · rw [if_pos h, if_pos h]
    exact t.repl r
  · rw [if_neg h, if_neg h]
    exact t.app r
theorem Sim.dictAt {h : MH} (S : Sim K W h) {l : Nat} {kvs : List (Key × MV)} {v : V} (e : h[l]? = some (.dK kvs)) (r : RV K W (.ref l) v) : ∃ a kws, v = .ref a ∧ W.f l = some a ∧ W.H a = some (.dK kws) ∧ RKV K W kvs kws := by
  obtain ⟨a, e1, e2, kws, e3, t⟩ := S.at e (by intro z; cases z) r
  exact ⟨a, kws, e1, e2, e3, t⟩
end
/-! ### d[k], k in d -/
@[simp ↓] def dgetF (x y : MV) (h : MH) : Res MV := match x with
  | .ref l => match h[l]?, keyOf y with
    | some (.dK kvs), some k => match valM kvs k with
      | some v => ok v h
      | none => none
    | _, _ => none
  | _ => none
@[simp ↓] def dinF (y x : MV) (h : MH) : Res MV := match x with
  | .ref l => match h[l]?, keyOf y with
    | some (.dK kvs), some k => ok (.bl (valM kvs k).isSome) h
    | _, _ => none
  | _ => none
@[simp ↓] def dninF (y x : MV) (h : MH) : Res MV := match x with
  | .ref l => match h[l]?, keyOf y with
    | some (.dK kvs), some k => ok (.bl (!(valM kvs k).isSome)) h
    | _, _ => none
  | _ => none
def rDIn : R2 := fun y x H Q => ∃ a o, x = .ref a ∧ DGet H a y o ∧ Q (.bl o.isSome) H
def rDNin : R2 := fun y x H Q => ∃ a o, x = .ref a ∧ DGet H a y o ∧ Q (.bl (!o.isSome)) H
section
variable {X : Cx} {c : XC} {K : PySem.W.Frag} {W : Wd} {o i : Expr} {pos : Pos}
theorem op_din (hu : X.A.units + 64 < cLine) : OpR X (compareOp .In) rDIn := fun pins s σ H y x u v Q I ry rx ⟨a, ov, e, g, q⟩ => by
  subst e
  obtain rfl : v = Value.ref a := rx
  exact d_in (by omega) I g ry fun s3 I3 => ⟨.bl ov.isSome, H, I3, rfl, q⟩
theorem op_dnin (hu : X.A.units + 64 < cLine) : OpR X (compareOp .NotIn) rDNin := fun pins s σ H y x u v Q I ry rx ⟨a, ov, e, g, q⟩ => by
  subst e
  obtain rfl : v = Value.ref a := rx
  exact d_notIn (by omega) I g ry fun s3 I3 => ⟨.bl (!ov.isSome), H, I3, rfl, q⟩
theorem dict_key {h : MH} {l : Nat} {y : MV} {u v : V} {kvs : List (Key × MV)} {k : Key} (S : Sim K W h) (r : RV K W (.ref l) v) (ry : RV K W y u) (e : h[l]? = some (.dK kvs)) (ek : keyOf y = some k) :
    ∃ a kws, v = .ref a ∧ DGet W.H a u (valV kws k) ∧ RKV K W kvs kws := by
  obtain ⟨a, kws, e1, e2, e3, t⟩ := S.dictAt e r
  refine ⟨a, kws, e1, ?_, t⟩
  rw [key_V ry ek]
  exact DGet.k e3
theorem opm_din : OpM K c rDIn dinF := fun W h y x u v Q S ry rx p => by
  unfold dinF at p
  cases x <;> first | exact p.elim | skip
  rename_i l
  dsimp only at p
  cases hl : h[l]? with
  | none =>
    rw [hl] at p
    exact p.elim
  | some ob =>
    cases hk : keyOf y with
    | none =>
      rw [hl, hk] at p
      cases ob <;> exact p.elim
    | some k =>
      rw [hl, hk] at p
      cases ob <;> first | exact p.elim | skip
      rename_i kvs
      obtain ⟨a, kws, e1, g, t⟩ := dict_key S rx ry hl hk
      exact ⟨a, _, e1, g, by rw [← (t.val k).2]; exact Pst.now p S _ (.bl _)⟩
theorem opm_dnin : OpM K c rDNin dninF := fun W h y x u v Q S ry rx p => by
  unfold dninF at p
  cases x <;> first | exact p.elim | skip
  rename_i l
  dsimp only at p
  cases hl : h[l]? with
  | none =>
    rw [hl] at p
    exact p.elim
  | some ob =>
    cases hk : keyOf y with
    | none =>
      rw [hl, hk] at p
      cases ob <;> exact p.elim
    | some k =>
      rw [hl, hk] at p
      cases ob <;> first | exact p.elim | skip
      rename_i kvs
      obtain ⟨a, kws, e1, g, t⟩ := dict_key S rx ry hl hk
      exact ⟨a, _, e1, g, by rw [← (t.val k).2]; exact Pst.now p S _ (.bl _)⟩
theorem em_dget {mo mi : ME} (hu : X.A.units + 64 < cLine) (ho : EM X c o mo) (hi : EM X c i mi) (hs : NoSl i) : EM X c (.Subscript o i pos) (opM dgetF mo mi) := pe_wk (pe_dget (by omega) ho hi hs) fun σ H Q ⟨W, h, s, e, S, rs, p⟩ => by
  subst e
  refine ⟨W, h, s, rfl, S, rs, p.bnd fun W1 h1 x x1 S1 p1 v r1 => ?_⟩
  refine ⟨W1, h1, s, rfl, S1, rs.mono x1, p1.bnd fun W2 h2 y x2 S2 p2 u r2 => ?_⟩
  unfold dgetF at p2
  cases x <;> first | exact p2.elim | skip
  rename_i l
  dsimp only at p2
  cases hl : h2[l]? with
  | none =>
    rw [hl] at p2
    exact p2.elim
  | some ob =>
    cases hk : keyOf y with
    | none =>
      rw [hl, hk] at p2
      cases ob <;> exact p2.elim
    | some k =>
      rw [hl, hk] at p2
      cases ob <;> first | exact p2.elim | skip
      rename_i kvs
      obtain ⟨a, kws, e1, g, t⟩ := dict_key S2 (r1.mono x2) r2 hl hk
      dsimp only at p2
      cases hv : valM kvs k with
      | none =>
        rw [hv] at p2
        exact p2.elim
      | some z =>
        rw [hv] at p2
        obtain ⟨w, e2, rw'⟩ := (t.val k).1 z hv
        rw [e2] at g
        exact ⟨a, w, e1, g, Pst.now p2 S2 _ rw'⟩
end
/-! ### {k: v for ..} -/
def dcS (g : MV → MS → Option MS) (cd : MM Bool) (ke ve : ME) (s0 : MS) (l : Nat) : List MV → MH → Res MV
  | [], h => ok (.ref l) h
  | x :: xs, h => match g x s0 with
    | none => none
    | some s1 => (cd s1 h).bnd fun b h1 => if b = true then (ke s1 h1).bnd fun y h2 => (ve s1 h2).bnd fun z h3 => match keyOf y, h3[l]? with
        | some k, some (.dK kvs) => if kvs.length < lim then dcS g cd ke ve s0 l xs (h3.set l (.dK (putM kvs k z))) else none
        | _, _ => none
      else dcS g cd ke ve s0 l xs h1
@[simp ↓] def dcM (mi : MM MIter) (vs : List Nat) (g : MV → MS → Option MS) (cd : MM Bool) (ke ve : ME) : ME := fun s h => (mi s h).bnd fun it h1 => match it with
  | .st its => dcS g cd ke ve (wipeM s vs) h1.length its (h1 ++ [.dK []])
  | .dyn _ _ => none
section
variable {X : Cx} {c : XC}
theorem dc_of {K : PySem.W.Frag} {vs : List Nat} {mi : MM MIter} {t : TG} {g : MV → MS → Option MS} {cd : MM Bool} {ke ve : ME} (ho : TgC K t g vs) {σ : St} {H : Hp} {Q : VK} (q : tM K c (dcM mi vs g cd ke ve) σ H Q) : tDc (tMI K c mi) t (tMB K c cd) (tM K c ke) (tM K c ve) vs σ H Q := by
  obtain ⟨W, h, s, e, S, rs, p⟩ := q
  subst e
  refine ⟨W, h, s, rfl, S, rs, p.bnd fun W1 h1 it x1 S1 p1 J jr D hD => ?_⟩
  have rs1 : RS K W1 (wipeM s vs) (L2.wipe σ vs) := (rs.mono x1).wipe _
  cases it with
  | dyn l k => exact p1.elim
  | st its =>
    have xa : Ext W1 (W1.add D (.dK [])) := Ext.add S1 hD
    have Sa : Sim K (W1.add D (.dK [])) (h1 ++ [.dK []]) := S1.add hD ⟨[], upd_same, .nil⟩
    have fl : (W1.add D (.dK [])).f h1.length = some D := by
      show (if h1.length = W1.n then some D else W1.f h1.length) = some D
      rw [if_pos S1.n.symm]
    have ln : h1.length < (W1.add D (.dK [])).n := by
      show h1.length < W1.n + 1
      rw [S1.n]
      exact Nat.lt_succ_self _
    have isD : ∀ W' : Wd, Ext (W1.add D (.dK [])) W' → ∀ b, W'.f h1.length = some b → b = D := fun W' x' b hb => by
      rcases x'.agree _ ln with q | q
      · rw [q, fl] at hb
        exact (Option.some.inj hb).symm
      · rw [q] at hb
        cases hb
    refine ⟨fun i n H' => n = its.length - i ∧ i ≤ its.length ∧ ∃ W' h', W'.H = H' ∧ Ext (W1.add D (.dK [])) W' ∧ Sim K W' h' ∧ Pst K c (CV K Q) W1 (dcS g cd ke ve (wipeM s vs) h1.length (its.drop i) h'),
      ⟨its.length, rfl, Nat.zero_le _, _, _, rfl, Ext.refl _, Sa, p1⟩, ?_⟩
    rintro i n H' ⟨hn, hle, W', h', rfl, x', S', p'⟩
    obtain ⟨j1, j2⟩ := jr i W' h' (xa.trans x') S'
    by_cases hi : i < its.length
    · obtain ⟨jg, jy⟩ := j1 its[i] (List.getElem?_eq_getElem hi)
      rw [List.drop_eq_getElem_cons hi] at p'
      refine .inr ⟨jg, fun H2 => ∃ W2 h2, W2.H = H2 ∧ Ext (W1.add D (.dK [])) W2 ∧ Sim K W2 h2 ∧ Pst K c (CV K Q) W1 (dcS g cd ke ve (wipeM s vs) h1.length (its.drop (i + 1)) h2),
        fun H2 w => ⟨its.length - (i + 1), by omega, rfl, by omega, w⟩, fun v H2 y => ?_⟩
      obtain ⟨W2, rfl, x2, S2, r2⟩ := jy v H2 y
      unfold dcS at p'
      cases hg : g its[i] (wipeM s vs) with
      | none =>
        rw [hg] at p'
        exact p'.elim
      | some s1 =>
        rw [hg] at p'
        have x02 := (xa.trans x').trans x2
        refine ho W2 (wipeM s vs) s1 _ its[i] v _ (rs1.mono x02) r2 hg fun σ2 rs2 hw => ⟨hw.trans wipe_wipe, W2, h', s1, rfl, S2, rs2, ?_⟩
        refine Pst.bnd2 p' x02 fun W3 h3 b x3 S3 p3 => ?_
        cases b with
        | false => exact ⟨W3, h3, rfl, (x'.trans x2).trans x3, S3, p3⟩
        | true =>
          refine iteT (B := ∃ W2 h2, W2.H = W3.H ∧ Ext (W1.add D (.dK [])) W2 ∧ Sim K W2 h2 ∧ Pst K c (CV K Q) W1 (dcS g cd ke ve (wipeM s vs) h1.length (its.drop (i + 1)) h2)) ⟨W3, h3, s1, rfl, S3, rs2.mono x3, ?_⟩
          rw [if_pos rfl] at p3
          refine Pst.bnd2 p3 (x02.trans x3) fun W4 h4 ky x4 S4 p4 u r4 => ?_
          refine ⟨W4, h4, s1, rfl, S4, (rs2.mono x3).mono x4, ?_⟩
          refine Pst.bnd2 p4 ((x02.trans x3).trans x4) fun W5 h5 z x5 S5 p5 w r5 => ?_
          cases hk : keyOf ky with
          | none =>
            rw [hk] at p5
            exact p5.elim
          | some k =>
            rw [hk] at p5
            cases hl : h5[h1.length]? with
            | none =>
              rw [hl] at p5
              exact p5.elim
            | some ob =>
              rw [hl] at p5
              cases ob <;> first | exact p5.elim | skip
              rename_i kvs
              have x15 : Ext (W1.add D (.dK [])) W5 := (((x'.trans x2).trans x3).trans x4).trans x5
              obtain ⟨a, ea⟩ := S5.live _ _ hl (by intro z; cases z)
              obtain rfl : a = D := isD W5 x15 a ea
              obtain ⟨o2, e2, ro⟩ := S5.obj _ a ea
              rw [hl] at e2
              cases e2
              obtain ⟨kws, e3, tt⟩ := ro
              dsimp only at p5
              by_cases hlm : kvs.length < lim
              · rw [if_pos hlm] at p5
                have xw : Ext W5 (W5.wr a (.dK (putK kws k w))) := Ext.wr S5 ea
                refine ⟨kws, k, key_V r4 hk |>.trans rfl, e3, Nat.lt_of_lt_of_le (by rw [← tt.length]; exact hlm) (lim_line (Nat.le_refl _)), W5.wr a (.dK (putK kws k w)), _, rfl, x15.trans xw, S5.wr (m := .dK (putM kvs k z)) ea ⟨_, upd_same, (tt.put r5).mono xw⟩, p5⟩
              · rw [if_neg hlm] at p5
                exact p5.elim
    · have e0 : its.drop i = [] := List.drop_eq_nil_of_le (by omega)
      rw [e0] at p'
      refine .inl ⟨j2 (by omega), p' W' (xa.trans x') S' (.ref D) (.ref (Nat.lt_of_lt_of_le ln x'.le) (isD W' x'))⟩
theorem em_dc {kx vx tg iter : Expr} {ifs : List Expr} {scope : Scope} {own : List (Str × Nat)} {pos : Pos} {mi : MM MIter} {t : TG} {g : MV → MS → Option MS} {cd : MM Bool} {ke ve : ME} (ho : TgC X.K t g (own.map (·.2)))
    (h : PE X (.DictComp kx vx [⟨tg, iter, ifs, 0⟩] scope pos) (tDc (tMI X.K c mi) t (tMB X.K c cd) (tM X.K c ke) (tM X.K c ve) (own.map (·.2)))) : EM X c (.DictComp kx vx [⟨tg, iter, ifs, 0⟩] scope pos) (dcM mi (own.map (·.2)) g cd ke ve) := pe_wk h fun _ _ _ q => dc_of ho q
end
end Mi
set_option maxHeartbeats 2000000
/-! Mi: < of tuples of whole numbers. -/
namespace Mi
open PySem L2
@[simp ↓] def ltAF (x y : MV) (h : MH) : Res MV := match x, y with
  | .int i, .int j => ok (.bl (decide (i < j))) h
  | .tup xs, .tup ys => match intsOf xs, intsOf ys with
    | some a, some b => ok (.bl (HT.lexLt a b)) h
    | _, _ => none
  | _, _ => none
def rLtA (K : PySem.W.Frag) : R2 := fun x y H Q => rI0 (fun i j => .bl (decide (i < j))) x y H Q ∨ rLtT K x y H Q
section
variable {X : Cx} {c : XC} {K : PySem.W.Frag}
theorem op_ltA (hu : X.A.units + 64 < cLine) : OpR X (compareOp .Lt) (rLtA X.K) := OpR.or op_lt (op_ltT (by omega))
theorem opm_ltA : OpM K c (rLtA K) ltAF := fun W h x y u v Q S r1 r2 p => by
  cases x <;> first | exact p.elim | skip
  · rename_i i
    cases y <;> first | exact p.elim | skip
    rename_i j
    exact .inl (opm_lt W h (.int i) (.int j) u v Q S r1 r2 p)
  · rename_i xs
    cases y <;> first | exact p.elim | skip
    rename_i ys
    have p' : Pst K c (CV K Q) W (match intsOf xs, intsOf ys with | some a, some b => ok (.bl (HT.lexLt a b)) h | _, _ => none) := p
    cases hx : intsOf xs with
    | none =>
      rw [hx] at p'
      exact p'.elim
    | some ns =>
      cases hy : intsOf ys with
      | none =>
        rw [hx, hy] at p'
        exact p'.elim
      | some ms =>
        rw [hx, hy] at p'
        obtain ⟨a, vs, e1, s1, t1⟩ := tup_sq r1
        obtain ⟨b, ws, e2, s2, t2⟩ := tup_sq r2
        have f1 := (ints_V t1 hx).1
        have f2 := (ints_V t2 hy).1
        subst f1
        subst f2
        exact .inr ⟨a, b, ns, ms, e1, e2, s1, s2, Pst.now p' S _ (.bl _)⟩
end
end Mi
set_option maxHeartbeats 2000000
/-! Mi: two fors in a comprehension (its list is a place of the mirror's heap), bit_length. -/
namespace Mi
open PySem L2
/-- the inner for: items go into place l -/
def liS (g : MV → MS → Option MS) (cd : MM Bool) (el : ME) (s0 : MS) (l : Nat) (k : MH → Res MV) : List MV → MH → Res MV
  | [], h => k h
  | x :: xs, h => match g x s0 with
    | none => none
    | some s1 => (cd s1 h).bnd fun b h1 => if b = true then (el s1 h1).bnd fun y h2 => match h2[l]? with
        | some (.lst zs) => if zs.length < lim then liS g cd el s0 l k xs (h2.set l (.lst (zs ++ [y]))) else none
        | _ => none
      else liS g cd el s0 l k xs h1
def lc2S (g : MV → MS → Option MS) (cd : MM Bool) (mi1 : MM MIter) (vs1 : List Nat) (g1 : MV → MS → Option MS) (cd1 : MM Bool) (el : ME) (s0 : MS) (l : Nat) : List MV → MH → Res MV
  | [], h => ok (.ref l) h
  | x :: xs, h => match g x s0 with
    | none => none
    | some s1 => (cd s1 h).bnd fun b h1 => if b = true then (mi1 s1 h1).bnd fun it h2 => (match it with
      | .st its => liS g1 cd1 el (wipeM s1 vs1) l (lc2S g cd mi1 vs1 g1 cd1 el s0 l xs) its h2
      | .dyn _ _ => none) else lc2S g cd mi1 vs1 g1 cd1 el s0 l xs h1
@[simp ↓] def lc2M (mi : MM MIter) (vs : List Nat) (g : MV → MS → Option MS) (cd : MM Bool) (mi1 : MM MIter) (vs1 : List Nat) (g1 : MV → MS → Option MS) (cd1 : MM Bool) (el : ME) : ME := fun s h => (mi s h).bnd fun it h1 => match it with
  | .st its => lc2S g cd mi1 vs1 g1 cd1 el (wipeM s vs) h1.length its (h1 ++ [.lst []])
  | .dyn _ _ => none
section
variable {X : Cx} {c : XC}
theorem lc2_of {K : PySem.W.Frag} {vs vs1 : List Nat} {mi mi1 : MM MIter} {t t1 : TG} {g g1 : MV → MS → Option MS} {cd cd1 : MM Bool} {el : ME} (ho : TgC K t g vs) (ho1 : TgC K t1 g1 vs1) {σ : St} {H : Hp} {Q : VK} (q : tM K c (lc2M mi vs g cd mi1 vs1 g1 cd1 el) σ H Q) :
    tLc2 (tMI K c mi) t (tMB K c cd) (tMI K c mi1) t1 (tMB K c cd1) (tM K c el) vs vs1 σ H Q := by
  obtain ⟨W, h, s, e, S, rs, p⟩ := q
  subst e
  refine ⟨W, h, s, rfl, S, rs, p.bnd fun W1 h1 it x1 S1 p1 J jr D hD => ?_⟩
  have rs1 : RS K W1 (wipeM s vs) (L2.wipe σ vs) := (rs.mono x1).wipe _
  cases it with
  | dyn l k => exact p1.elim
  | st its =>
    have xa : Ext W1 (W1.add D (.lst [])) := Ext.add S1 hD
    have Sa : Sim K (W1.add D (.lst [])) (h1 ++ [.lst []]) := S1.add hD ⟨[], upd_same, .nil⟩
    have fl : (W1.add D (.lst [])).f h1.length = some D := by
      show (if h1.length = W1.n then some D else W1.f h1.length) = some D
      rw [if_pos S1.n.symm]
    have ln : h1.length < (W1.add D (.lst [])).n := by
      show h1.length < W1.n + 1
      rw [S1.n]
      exact Nat.lt_succ_self _
    have isD : ∀ W' : Wd, Ext (W1.add D (.lst [])) W' → ∀ b, W'.f h1.length = some b → b = D := fun W' x' b hb => by
      rcases x'.agree _ ln with q | q
      · rw [q, fl] at hb
        exact (Option.some.inj hb).symm
      · rw [q] at hb
        cases hb
    refine ⟨fun i n H' => n = its.length - i ∧ i ≤ its.length ∧ ∃ W' h', W'.H = H' ∧ Ext (W1.add D (.lst [])) W' ∧ Sim K W' h' ∧ Pst K c (CV K Q) W1 (lc2S g cd mi1 vs1 g1 cd1 el (wipeM s vs) h1.length (its.drop i) h'),
      ⟨its.length, rfl, Nat.zero_le _, _, _, rfl, Ext.refl _, Sa, p1⟩, ?_⟩
    rintro i n H' ⟨hn, hle, W', h', rfl, x', S', p'⟩
    obtain ⟨j1, j2⟩ := jr i W' h' (xa.trans x') S'
    by_cases hi : i < its.length
    · obtain ⟨jg, jy⟩ := j1 its[i] (List.getElem?_eq_getElem hi)
      rw [List.drop_eq_getElem_cons hi] at p'
      refine .inr ⟨jg, fun H2 => ∃ W2 h2, W2.H = H2 ∧ Ext (W1.add D (.lst [])) W2 ∧ Sim K W2 h2 ∧ Pst K c (CV K Q) W1 (lc2S g cd mi1 vs1 g1 cd1 el (wipeM s vs) h1.length (its.drop (i + 1)) h2),
        fun H2 w => ⟨its.length - (i + 1), by omega, rfl, by omega, w⟩, fun v H2 y => ?_⟩
      obtain ⟨W2, rfl, x2, S2, r2⟩ := jy v H2 y
      unfold lc2S at p'
      cases hg : g its[i] (wipeM s vs) with
      | none =>
        rw [hg] at p'
        exact p'.elim
      | some s1 =>
        rw [hg] at p'
        have x02 := (xa.trans x').trans x2
        refine ho W2 (wipeM s vs) s1 _ its[i] v _ (rs1.mono x02) r2 hg fun σ2 rs2 hw => ⟨hw.trans wipe_wipe, W2, h', s1, rfl, S2, rs2, ?_⟩
        refine Pst.bnd2 p' x02 fun W3 h3 b x3 S3 p3 => ?_
        cases b with
        | false => exact ⟨W3, h3, rfl, (x'.trans x2).trans x3, S3, p3⟩
        | true =>
          refine iteT (B := ∃ W2 h2, W2.H = W3.H ∧ Ext (W1.add D (.lst [])) W2 ∧ Sim K W2 h2 ∧ Pst K c (CV K Q) W1 (lc2S g cd mi1 vs1 g1 cd1 el (wipeM s vs) h1.length (its.drop (i + 1)) h2)) ⟨W3, h3, s1, rfl, S3, rs2.mono x3, ?_⟩
          rw [if_pos rfl] at p3
          have x03 := x02.trans x3
          refine Pst.bnd2 p3 x03 fun W4 h4 it1 x4 S4 p4 J1 jr1 => ?_
          have x14 := ((x'.trans x2).trans x3).trans x4
          cases it1 with
          | dyn l k => exact p4.elim
          | st its1 =>
            have rs4 : RS K W4 (wipeM s1 vs1) (L2.wipe σ2 vs1) := ((rs2.mono x3).mono x4).wipe _
            refine ⟨fun j k H' => k = its1.length - j ∧ j ≤ its1.length ∧ ∃ W5 h5, W5.H = H' ∧ Ext W4 W5 ∧ Sim K W5 h5 ∧ Pst K c (CV K Q) W1 (liS g1 cd1 el (wipeM s1 vs1) h1.length (lc2S g cd mi1 vs1 g1 cd1 el (wipeM s vs) h1.length (its.drop (i + 1))) (its1.drop j) h5),
              ⟨its1.length, rfl, Nat.zero_le _, W4, h4, rfl, Ext.refl _, S4, p4⟩, ?_⟩
            rintro j k H' ⟨hk, hjle, W5, h5, rfl, x5, S5, p5⟩
            obtain ⟨k1, k2⟩ := jr1 j W5 h5 x5 S5
            by_cases hj : j < its1.length
            · obtain ⟨kg, ky⟩ := k1 its1[j] (List.getElem?_eq_getElem hj)
              rw [List.drop_eq_getElem_cons hj] at p5
              unfold liS at p5
              refine .inr ⟨kg, fun H6 => ∃ W6 h6, W6.H = H6 ∧ Ext W4 W6 ∧ Sim K W6 h6 ∧ Pst K c (CV K Q) W1 (liS g1 cd1 el (wipeM s1 vs1) h1.length (lc2S g cd mi1 vs1 g1 cd1 el (wipeM s vs) h1.length (its.drop (i + 1))) (its1.drop (j + 1)) h6),
                fun H6 w => ⟨its1.length - (j + 1), by omega, rfl, by omega, w⟩, fun v1 H6 y1 => ?_⟩
              obtain ⟨W6, rfl, x6, S6, r6⟩ := ky v1 H6 y1
              have x46 := x5.trans x6
              have x06 := (x03.trans x4).trans x46
              cases hg1 : g1 its1[j] (wipeM s1 vs1) with
              | none =>
                rw [hg1] at p5
                exact p5.elim
              | some s2 =>
                rw [hg1] at p5
                refine ho1 W6 _ s2 _ _ v1 _ (rs4.mono x46) r6 hg1 fun σ3 rs3 hw1 => ⟨hw1.trans wipe_wipe, W6, h5, s2, rfl, S6, rs3, ?_⟩
                refine Pst.bnd2 p5 x06 fun W7 h7 b x7 S7 p7 => ?_
                cases b with
                | false => exact ⟨W7, h7, rfl, x46.trans x7, S7, p7⟩
                | true =>
                  refine iteT (B := ∃ W6 h6, W6.H = W7.H ∧ Ext W4 W6 ∧ Sim K W6 h6 ∧ Pst K c (CV K Q) W1 (liS g1 cd1 el (wipeM s1 vs1) h1.length (lc2S g cd mi1 vs1 g1 cd1 el (wipeM s vs) h1.length (its.drop (i + 1))) (its1.drop (j + 1)) h6)) ⟨W7, h7, s2, rfl, S7, rs3.mono x7, ?_⟩
                  rw [if_pos rfl] at p7
                  refine Pst.bnd2 p7 (x06.trans x7) fun W8 h8 y x8 S8 p8 u r8 => ?_
                  cases hl : h8[h1.length]? with
                  | none =>
                    rw [hl] at p8
                    exact p8.elim
                  | some ob =>
                    rw [hl] at p8
                    cases ob <;> first | exact p8.elim | skip
                    rename_i zs
                    have x48 := (x46.trans x7).trans x8
                    have x18 := x14.trans x48
                    obtain ⟨a, ea⟩ := S8.live _ _ hl (by intro z; cases z)
                    obtain rfl : a = D := isD W8 x18 a ea
                    obtain ⟨o2, e2, ro⟩ := S8.obj _ a ea
                    rw [hl] at e2
                    cases e2
                    obtain ⟨ws, e3, tt⟩ := ro
                    dsimp only at p8
                    by_cases hlm : zs.length < lim
                    · rw [if_pos hlm] at p8
                      have xw : Ext W8 (W8.wr a (.lst (ws ++ [u]))) := Ext.wr S8 ea
                      refine ⟨ws, e3, Nat.lt_of_lt_of_le (by rw [← tt.length]; exact hlm) (lim_line (Nat.le_refl _)), W8.wr a (.lst (ws ++ [u])), _, rfl, x48.trans xw, S8.wr (m := .lst (zs ++ [y])) ea ⟨_, upd_same, (tt.append (.one r8)).mono xw⟩, p8⟩
                    · rw [if_neg hlm] at p8
                      exact p8.elim
            · have e0 : its1.drop j = [] := List.drop_eq_nil_of_le (by omega)
              rw [e0] at p5
              exact .inl ⟨k2 (by omega), W5, h5, rfl, x14.trans x5, S5, p5⟩
    · have e0 : its.drop i = [] := List.drop_eq_nil_of_le (by omega)
      rw [e0] at p'
      refine .inl ⟨j2 (by omega), p' W' (xa.trans x') S' (.ref D) (.ref (Nat.lt_of_lt_of_le ln x'.le) (isD W' x'))⟩
theorem em_lc2 {elt tg iter tg1 iter1 : Expr} {ifs ifs1 : List Expr} {scope : Scope} {own : List (Str × Nat)} {vs1 : List Nat} {pos : Pos} {mi mi1 : MM MIter} {t t1 : TG} {g g1 : MV → MS → Option MS} {cd cd1 : MM Bool} {el : ME} (ho : TgC X.K t g (own.map (·.2))) (ho1 : TgC X.K t1 g1 vs1)
    (h : PE X (.ListComp elt [⟨tg, iter, ifs, 0⟩, ⟨tg1, iter1, ifs1, 0⟩] scope pos) (tLc2 (tMI X.K c mi) t (tMB X.K c cd) (tMI X.K c mi1) t1 (tMB X.K c cd1) (tM X.K c el) (own.map (·.2)) vs1)) : EM X c (.ListComp elt [⟨tg, iter, ifs, 0⟩, ⟨tg1, iter1, ifs1, 0⟩] scope pos) (lc2M mi (own.map (·.2)) g cd mi1 vs1 g1 cd1 el) := pe_wk h fun _ _ _ q => lc2_of ho ho1 q
theorem s_lc2 {elt tg iter tg1 iter1 : Expr} {ifs ifs1 : List Expr} {scope : Scope} {own : List (Str × Nat)} {vs1 : List Nat} {pos spos py : Pos} {y : Str} {i : Nat} {mi mi1 : MM MIter} {t t1 : TG} {g g1 : MV → MS → Option MS} {cd cd1 : MM Bool} {el : ME} (ho : TgC X.K t g (own.map (·.2))) (ho1 : TgC X.K t1 g1 vs1)
    (h : PS X (.Assign [.Name y py] (.ListComp elt [⟨tg, iter, ifs, 0⟩, ⟨tg1, iter1, ifs1, 0⟩] scope pos) spos) (tAsg (tLc2 (tMI X.K c mi) t (tMB X.K c cd) (tMI X.K c mi1) t1 (tMB X.K c cd1) (tM X.K c el) (own.map (·.2)) vs1) (gName i))) : SM X c (.Assign [.Name y py] (.ListComp elt [⟨tg, iter, ifs, 0⟩, ⟨tg1, iter1, ifs1, 0⟩] scope pos) spos) (setS i (lc2M mi (own.map (·.2)) g cd mi1 vs1 g1 cd1 el)) :=
  ps_wk h fun D σ H ⟨W, h, s, e, S, rs, p⟩ => by
    subst e
    exact lc2_of ho ho1 ⟨W, h, s, rfl, S, rs, p.bnd fun W1 h1 y x1 S1 p1 v r1 => p1 W1 _ (Ext.refl _) S1 ((rs.mono x1).set r1 i)⟩
theorem frz_of {K : PySem.W.Frag} {m : ME} {σ : St} {H : Hp} {Q : VK} (q : tM K c (frzM m) σ H Q) : tM K c m σ H Q := by
  obtain ⟨W, h, s, e, S, rs, p⟩ := q
  subst e
  refine ⟨W, h, s, rfl, S, rs, p.bnd fun W1 h1 x x1 S1 p1 v r1 => ?_⟩
  cases hf : frzV 4 x h1 with
  | none =>
    rw [hf] at p1
    exact p1.elim
  | some q =>
    rw [hf] at p1
    obtain ⟨W2, T, S2, r2⟩ := frzV_ok 4 x h1 q.1 q.2 W1 v hf S1 r1
    rw [← T.H]
    exact p1 W2 T.x S2 v r2
theorem s_lc2F {elt tg iter tg1 iter1 : Expr} {ifs ifs1 : List Expr} {scope : Scope} {own : List (Str × Nat)} {vs1 : List Nat} {pos spos py : Pos} {y : Str} {i : Nat} {mi mi1 : MM MIter} {t t1 : TG} {g g1 : MV → MS → Option MS} {cd cd1 : MM Bool} {el : ME} (ho : TgC X.K t g (own.map (·.2))) (ho1 : TgC X.K t1 g1 vs1)
    (h : PS X (.Assign [.Name y py] (.ListComp elt [⟨tg, iter, ifs, 0⟩, ⟨tg1, iter1, ifs1, 0⟩] scope pos) spos) (tAsg (tLc2 (tMI X.K c mi) t (tMB X.K c cd) (tMI X.K c mi1) t1 (tMB X.K c cd1) (tM X.K c el) (own.map (·.2)) vs1) (gName i))) : SM X c (.Assign [.Name y py] (.ListComp elt [⟨tg, iter, ifs, 0⟩, ⟨tg1, iter1, ifs1, 0⟩] scope pos) spos) (setS i (frzM (lc2M mi (own.map (·.2)) g cd mi1 vs1 g1 cd1 el))) :=
  ps_wk h fun D σ H ⟨W, h, s, e, S, rs, p⟩ => by
    subst e
    exact lc2_of ho ho1 (frz_of ⟨W, h, s, rfl, S, rs, p.bnd fun W1 h1 y x1 S1 p1 v r1 => p1 W1 _ (Ext.refl _) S1 ((rs.mono x1).set r1 i)⟩)
/-! names that take a list's items -/
@[simp ↓] def unpL (is : List Nat) : MV → MS → Option MS := fun x s => match x with
  | .fls xs => putAll is xs s
  | _ => none
theorem tg_lst {K : PySem.W.Frag} (is : List Nat) : TgM K (gLst K is.length (gNames is)) (unpL is) := fun W s s' σ x v Q rs r e q => by
  cases x <;> first | (cases e; done) | skip
  cases r with
  | fls st e1 t => exact ⟨_, _, rfl, .inl (.inl e1), by rw [← t.length]; exact putAll_len e, tg_all is W s s' σ _ _ Q rs t e q⟩
/-! bit_length -/
@[simp ↓] def bitsM (m : ME) : ME := fun s h => (m s h).bnd fun x h1 => match x with
  | .int i => ok (.int (Builtin.Int.intBits i : Nat)) h1
  | _ => none
theorem em_bits {o : Expr} {apos pos : Pos} {m : ME} (ho : EM X c o m) (hbase : attributeBase o "bit_length" X.env (eval o X.env) = eval o X.env := by rfl) (hline : (apos.endLine == pos.line) = true := by rfl) : EM X c (.Call (.Attribute o "bit_length" apos) [] [] pos) (bitsM m) :=
  pe_wk (pe_bits ho hbase hline) fun σ H Q ⟨W, h, s, e, S, rs, p⟩ => by
    subst e
    refine ⟨W, h, s, rfl, S, rs, p.bnd fun W1 h1 x x1 S1 p1 v r1 => ?_⟩
    cases x <;> first | exact p1.elim | skip
    cases r1
    exact ⟨_, rfl, p1 W1 (Ext.refl _) S1 _ (.int _)⟩
end
end Mi
set_option maxHeartbeats 2000000
/-! Mi: how two fors reckon when their parts leave the heap alone. -/
namespace Mi
open PySem L2
theorem run_nat {n : Nat} : runOf 0 n = (List.range n).map fun (i : Nat) => MV.int (i : Int) := by
  unfold runOf
  exact List.map_congr_left fun i _ => by rw [Int.zero_add]
theorem liS_pure {β : Type} {val : β → MV} {e : β → MV} {g : MV → MS → Option MS} {el : ME} {s0 : MS} {l : Nat} {k : MH → Res MV} : ∀ {xs : List β} {acc : List MV} {h : MH}, h[l]? = some (.lst acc) → (∀ x ∈ xs, ∃ s1, g (val x) s0 = some s1 ∧ ∀ h, el s1 h = ok (e x) h) → acc.length + xs.length ≤ lim →
    liS g yesT el s0 l k (xs.map val) h = k (h.set l (.lst (acc ++ xs.map e)))
  | [], acc, h, hl, _, _ => by
    have : h.set l (.lst acc) = h := by
      obtain ⟨hlt, e⟩ := List.getElem?_eq_some_iff.mp hl
      rw [← e, List.set_getElem_self]
    show k h = _
    rw [List.map_nil, List.append_nil, this]
  | x :: xs, acc, h, hl, hs, hn => by
    obtain ⟨s1, e1, e2⟩ := hs x (List.mem_cons_self ..)
    rw [List.length_cons] at hn
    have ih := liS_pure (g := g) (el := el) (s0 := s0) (l := l) (k := k) (xs := xs) (acc := acc ++ [e x]) (h := h.set l (.lst (acc ++ [e x]))) (get_set hl) (fun y hy => hs y (List.mem_cons_of_mem _ hy)) (by rw [List.length_append]; show acc.length + 1 + xs.length ≤ lim; omega)
    rw [List.set_set, List.append_assoc] at ih
    rw [List.map_cons]
    unfold liS
    rw [e1]
    show (ok true h).bnd _ = _
    rw [bnd_ok, if_pos rfl, e2, bnd_ok, hl]
    dsimp only
    rw [if_pos (by omega), ih]
    rfl
theorem lc2_pure {α β : Type} {val : α → MV} {valy : β → MV} {ys : α → List β} {e : α → β → MV} {g g1 : MV → MS → Option MS} {mi1 : MM MIter} {vs1 : List Nat} {el : ME} {s0 : MS} {l : Nat} : ∀ {xs : List α} {acc : List MV} {h : MH}, h[l]? = some (.lst acc) →
    (∀ x ∈ xs, ∃ s1, g (val x) s0 = some s1 ∧ (∀ h, mi1 s1 h = ok (.st ((ys x).map valy)) h) ∧ ∀ y ∈ ys x, ∃ s2, g1 (valy y) (wipeM s1 vs1) = some s2 ∧ ∀ h, el s2 h = ok (e x y) h) → acc.length + (xs.flatMap fun x => (ys x).map (e x)).length ≤ lim →
    lc2S g yesT mi1 vs1 g1 yesT el s0 l (xs.map val) h = ok (.ref l) (h.set l (.lst (acc ++ xs.flatMap fun x => (ys x).map (e x))))
  | [], acc, h, hl, _, _ => by
    have : h.set l (.lst acc) = h := by
      obtain ⟨hlt, e⟩ := List.getElem?_eq_some_iff.mp hl
      rw [← e, List.set_getElem_self]
    show ok (MV.ref l) h = _
    rw [List.flatMap_nil, List.append_nil, this]
  | x :: xs, acc, h, hl, hs, hn => by
    obtain ⟨s1, e1, e2, e3⟩ := hs x (List.mem_cons_self ..)
    rw [List.flatMap_cons, List.length_append, List.length_map] at hn
    have ih := lc2_pure (g := g) (g1 := g1) (mi1 := mi1) (vs1 := vs1) (el := el) (s0 := s0) (l := l) (e := e) (xs := xs) (acc := acc ++ (ys x).map (e x)) (h := h.set l (.lst (acc ++ (ys x).map (e x)))) (get_set hl) (fun y hy => hs y (List.mem_cons_of_mem _ hy)) (by rw [List.length_append, List.length_map]; omega)
    rw [List.set_set, List.append_assoc] at ih
    rw [List.map_cons]
    unfold lc2S
    rw [e1]
    show (ok true h).bnd _ = _
    rw [bnd_ok, if_pos rfl, e2, bnd_ok]
    show liS g1 yesT el _ _ _ _ _ = _
    rw [liS_pure hl e3 (by omega), ih, List.flatMap_cons]
/-- two fors, frozen at once -/
theorem frz_lc2 {α β : Type} {val : α → MV} {valy : β → MV} {xs : List α} {ys : α → List β} {e : α → β → MV} {g g1 : MV → MS → Option MS} {mi mi1 : MM MIter} {vs vs1 : List Nat} {el : ME} {s : MS} {h : MH} (hm : mi s h = ok (.st (xs.map val)) h)
    (hs : ∀ x ∈ xs, ∃ s1, g (val x) (wipeM s vs) = some s1 ∧ (∀ h, mi1 s1 h = ok (.st ((ys x).map valy)) h) ∧ ∀ y ∈ ys x, ∃ s2, g1 (valy y) (wipeM s1 vs1) = some s2 ∧ ∀ h, el s2 h = ok (e x y) h) (hn : (xs.flatMap fun x => (ys x).map (e x)).length ≤ lim) (hf : ∀ x ∈ xs, ∀ y ∈ ys x, flatT (e x y) = true) :
    frzM (lc2M mi vs g yesT mi1 vs1 g1 yesT el) s h = ok (.fls (xs.flatMap fun x => (ys x).map (e x))) (h ++ [.dead]) := by
  have e1 := lc2_pure (g := g) (g1 := g1) (mi1 := mi1) (vs1 := vs1) (el := el) (s0 := wipeM s vs) (l := h.length) (e := e) (xs := xs) (val := val) (ys := ys) (valy := valy) (acc := []) (h := h ++ [.lst []]) get_app hs (by simpa using hn)
  have e2 : (h ++ [MO.lst []]).set h.length (.lst ([] ++ xs.flatMap fun x => (ys x).map (e x))) = h ++ [.lst (xs.flatMap fun x => (ys x).map (e x))] := by
    rw [List.set_append_right _ _ (Nat.le_refl _), Nat.sub_self]
    rfl
  rw [e2] at e1
  have fl : (xs.flatMap fun x => (ys x).map (e x)).all flatT = true := by
    rw [List.all_eq_true]
    intro z hz
    obtain ⟨x, hx, hz⟩ := List.mem_flatMap.mp hz
    obtain ⟨y, hy, rfl⟩ := List.mem_map.mp hz
    exact hf x hx y hy
  have e3 := frz_lst (h := h ++ [.lst (xs.flatMap fun x => (ys x).map (e x))]) (l := h.length) 2 get_app fl
  have e4 : (h ++ [MO.lst (xs.flatMap fun x => (ys x).map (e x))]).set h.length .dead = h ++ [.dead] := by
    rw [List.set_append_right _ _ (Nat.le_refl _), Nat.sub_self]
    rfl
  rw [e4] at e3
  show ((lc2M mi vs g yesT mi1 vs1 g1 yesT el s h).bnd _) = _
  unfold lc2M
  rw [hm, bnd_ok]
  dsimp only
  rw [e1, bnd_ok, e3]
end Mi
namespace Mi
/-- a new row behind the others -/
theorem Mat.push {h : MH} {R lo : Nat} {rows : List (List MV)} {rs : List Nat} (M : Mat h R rows lo rs) {ys : List MV} (hlo : lo ≤ h.length) : Mat ((h ++ [MO.lst ys]).set R (MO.lst (rs.map MV.ref ++ [MV.ref h.length]))) R (rows ++ [ys]) lo (rs ++ [h.length]) := by
  have new : ∀ r ∈ rs, r < h.length := fun r hr => by
    obtain ⟨i, hi⟩ := List.getElem?_of_mem hr
    obtain ⟨xs, hx⟩ : ∃ xs, rows[i]? = some xs := ⟨_, List.getElem?_eq_getElem (by rw [← M.len]; exact (List.getElem?_eq_some_iff.mp hi).1)⟩
    exact at_len (M.row i r xs hi hx)
  have nR : R ≠ h.length := Nat.ne_of_lt (at_len M.top)
  have nin : h.length ∉ rs := fun z => Nat.lt_irrefl _ (new _ z)
  refine ⟨?_, by rw [List.length_append, List.length_append, M.len]; rfl, ?_, fun z => ?_, M.loR, fun r hr => ?_, fun k r zs hr hz => ?_⟩
  · rw [get_set (get_app_left M.top), List.map_append]
    rfl
  · refine List.nodup_append.mpr ⟨M.nd, List.nodup_cons.mpr ⟨(fun z => nomatch z), List.nodup_nil⟩, fun a ha b hb e => ?_⟩
    obtain rfl := List.mem_singleton.mp hb
    exact nin (e ▸ ha)
  · rcases List.mem_append.mp z with z | z
    · exact M.no z
    · exact nR (List.mem_singleton.mp z)
  · rcases List.mem_append.mp hr with z | z
    · exact M.lor r z
    · rw [List.mem_singleton.mp z]
      exact hlo
  · by_cases hk : k < rs.length
    · rw [List.getElem?_append_left hk] at hr
      rw [List.getElem?_append_left (by rw [← M.len]; exact hk)] at hz
      exact get_set_ne (get_app_left (M.row k r zs hr hz)) fun z => M.no (by rw [← z]; exact List.mem_of_getElem? hr)
    · have e : k = rs.length := by
        have := (List.getElem?_eq_some_iff.mp hr).1
        rw [List.length_append] at this
        have t : k < rs.length + 1 := this
        omega
      subst e
      rw [List.getElem?_append_right (Nat.le_refl _), Nat.sub_self] at hr
      rw [List.getElem?_append_right (by rw [M.len]; exact Nat.le_refl _), M.len, Nat.sub_self] at hz
      cases hr
      cases hz
      exact get_set_ne get_app (Ne.symm nR)
theorem mat_nil {h : MH} : Mat (h ++ [MO.lst []]) h.length [] h.length [] := ⟨get_app, rfl, List.nodup_nil, (fun z => nomatch z), Nat.le_refl _, (fun _ z => nomatch z), fun i r xs hr _ => by simp at hr⟩
theorem set_app {h : MH} {o u : MO} : (h ++ [o]).set h.length u = h ++ [u] := by
  rw [List.set_append_right _ _ (Nat.le_refl _), Nat.sub_self]
  rfl
theorem tb_add {α : Type} {F : Nat → α} {a : Nat} : ∀ {b : Nat}, tb (a + b) F = tb a F ++ tb b fun i => F (a + i)
  | 0 => by simp [tb]
  | b + 1 => by rw [← Nat.add_assoc, tb_succ, tb_add, tb_succ, List.append_assoc]
end Mi
set_option maxHeartbeats 2000000
/-! Mi: in, by values of any depth; list.insert. -/
namespace Mi
open PySem L2
@[simp ↓] def insF (x : MV) (ys : List MV) (h : MH) : Res MV := match x, ys with
  | .ref l, [.int i, y] => match h[l]? with
    | some (.lst xs) => if xs.length < lim ∧ 0 ≤ i ∧ i ≤ 1000000 then ok .non (h.set l (.lst (xs.take i.toNat ++ [y] ++ xs.drop i.toNat))) else none
    | _ => none
  | _, _ => none
def inDB (h : MH) (x y : MV) : Option Bool := match pyOf x, (seqOf h y).bind pysOf with
  | some d, some ds => if SeqAt.shaped d = true ∧ SeqAt.shaped (.list ds) = true then some (ds.any fun z => PyData.eqv z d) else none
  | _, _ => none
@[simp ↓] def inDF (x y : MV) (h : MH) : Res MV := match inDB h x y with
  | some b => ok (.bl b) h
  | none => none
@[simp ↓] def ninDF (x y : MV) (h : MH) : Res MV := match inDB h x y with
  | some b => ok (.bl (!b)) h
  | none => none
section
variable {X : Cx} {c : XC} {K : PySem.W.Frag} {W : Wd}
theorem units65 {k : Nat} {A : Around} (r : Room k A) : A.units + 65 < cLine := by
  have := r.un
  omega
def rInsert : V → List V → Hp → VK → Prop := fun x vs H Q => ∃ (l : Addr) (xs : List V) (i : Int) (y : V), x = .ref l ∧ vs = [.int i, y] ∧ H l = some (.lst xs) ∧ xs.length < sizeLine ∧ 0 ≤ i ∧ i < 2 ^ 63 ∧ Q .non (upd H l (.lst (xs.take i.toNat ++ [y] ++ xs.drop i.toNat)))
theorem mt_ins : MtR X "list.insert" rInsert := mt_insert
theorem mm_ins : MthM K c rInsert insF := fun W h x ys v vs Q S r rs p => by
  unfold insF at p
  split at p
  · rename_i l i y
    obtain ⟨u1, u, rfl, ri, ry⟩ := rvs_two rs
    cases hl : h[l]? with
    | none =>
      rw [hl] at p
      exact p.elim
    | some o =>
      rw [hl] at p
      cases o with
      | dead => exact p.elim
      | dK kvs => exact p.elim
      | lst xs =>
        dsimp only at p
        by_cases q : xs.length < lim ∧ 0 ≤ i ∧ i ≤ 1000000
        · rw [if_pos q] at p
          obtain ⟨a, ws, rfl, e2, e3, t⟩ := S.lstAt hl r
          refine ⟨a, ws, i, u, rfl, by rw [rv_int ri], e3, Nat.lt_of_lt_of_le (by rw [← t.length]; exact q.1) (lim_line (Nat.le_refl _)), q.2.1, by omega, ?_⟩
          exact p (W.wr a (.lst (ws.take i.toNat ++ [u] ++ ws.drop i.toNat))) (Ext.wr S e2) (S.wr e2 ⟨_, upd_same, (((t.take _).append (.one ry)).append (t.drop _)).mono (Ext.wr S e2)⟩) _ .non
        · rw [if_neg q] at p
          exact p.elim
  · exact p.elim
/-! in -/
def rInT (K : PySem.W.Frag) (n : Bool) : R2 := fun x y H Q => ∃ d ds, Dp K H x d ∧ Dp K H y (.tuple ds) ∧ SeqAt.shaped d = true ∧ SeqAt.shaped (.list ds) = true ∧ Q (.bl (if n then !ds.any fun z => PyData.eqv z d else ds.any fun z => PyData.eqv z d)) H
theorem op_inT (hu : X.A.units + 65 < cLine) : OpR X (compareOp .In) (rInT X.K false) := by
  intro pins s σ H x y v u Q I rx ry h
  obtain ⟨d, ds, hd, he, sd, se, q⟩ := h
  obtain ⟨as, r1⟩ := Dp.reads I d x v hd rx
  obtain ⟨bs, r2⟩ := Dp.reads I (.tuple ds) y u he ry
  exact SeqAt.in_tuple_reads r2 r1 (SeqAt.canLay_of_shaped se) (SeqAt.canLay_of_shaped sd) (PyProof.Rows.room_in_shaped sd hu) ⟨.bl _, H, I, rfl, q⟩
theorem op_ninT (hu : X.A.units + 65 < cLine) : OpR X (compareOp .NotIn) (rInT X.K true) := by
  intro pins s σ H x y v u Q I rx ry h
  obtain ⟨d, ds, hd, he, sd, se, q⟩ := h
  obtain ⟨as, r1⟩ := Dp.reads I d x v hd rx
  obtain ⟨bs, r2⟩ := Dp.reads I (.tuple ds) y u he ry
  exact SeqAt.notIn_tuple_reads r2 r1 (SeqAt.canLay_of_shaped se) (SeqAt.canLay_of_shaped sd) (PyProof.Rows.room_in_shaped sd hu) ⟨.bl _, H, I, rfl, q⟩
def rInA (K : PySem.W.Frag) : R2 := fun x y H Q => rInD K x y H Q ∨ rInT K false x y H Q
def rNinA (K : PySem.W.Frag) : R2 := fun x y H Q => rNotInD K x y H Q ∨ rInT K true x y H Q
theorem op_inA (hu : X.A.units + 65 < cLine) : OpR X (compareOp .In) (rInA X.K) := OpR.or (op_inD hu) (op_inT hu)
theorem op_ninA (hu : X.A.units + 65 < cLine) : OpR X (compareOp .NotIn) (rNinA X.K) := OpR.or (op_notInD hu) (op_ninT hu)
theorem inDB_dp {h : MH} {x y : MV} {u v : V} {b : Bool} (S : Sim K W h) (r1 : RV K W x u) (r2 : RV K W y v) (e : inDB h x y = some b) :
    ∃ d ds, Dp K W.H u d ∧ (Dp K W.H v (.list ds) ∨ Dp K W.H v (.tuple ds)) ∧ SeqAt.shaped d = true ∧ SeqAt.shaped (.list ds) = true ∧ (ds.any fun z => PyData.eqv z d) = b := by
  unfold inDB at e
  cases h1 : pyOf x with
  | none =>
    rw [h1] at e
    cases e
  | some d =>
    cases h2 : seqOf h y with
    | none =>
      rw [h1, h2] at e
      cases e
    | some xs =>
      cases h3 : pysOf xs with
      | none =>
        rw [h1, h2, Option.bind_some, h3] at e
        cases e
      | some ds =>
        rw [h1, h2, Option.bind_some, h3] at e
        have e' : (if SeqAt.shaped d = true ∧ SeqAt.shaped (.list ds) = true then some (ds.any fun z => PyData.eqv z d) else none) = some b := e
        by_cases q : SeqAt.shaped d = true ∧ SeqAt.shaped (.list ds) = true
        · rw [if_pos q] at e'
          obtain ⟨a, vs, e1, e2, t⟩ := seq_sq S r2 h2
          subst e1
          have da := pys_dp t h3
          refine ⟨d, ds, py_dp r1 h1, ?_, q.1, q.2, Option.some.inj e'⟩
          rcases e2 with e2 | e2
          · exact .inl (.lst e2 da)
          · exact .inr (.tup e2 da)
        · rw [if_neg q] at e'
          cases e'
theorem opm_inA : OpM K c (rInA K) inDF := fun W h x y u v Q S r1 r2 p => by
  unfold inDF at p
  cases e : inDB h x y with
  | none =>
    rw [e] at p
    exact p.elim
  | some b =>
    rw [e] at p
    obtain ⟨d, ds, a1, a2, a3, a4, a5⟩ := inDB_dp S r1 r2 e
    rcases a2 with a2 | a2
    · exact .inl ⟨d, ds, a1, a2, a3, a4, by rw [a5]; exact p.now S _ (.bl _)⟩
    · exact .inr ⟨d, ds, a1, a2, a3, a4, by rw [if_neg Bool.false_ne_true, a5]; exact p.now S _ (.bl _)⟩
theorem opm_ninA : OpM K c (rNinA K) ninDF := fun W h x y u v Q S r1 r2 p => by
  unfold ninDF at p
  cases e : inDB h x y with
  | none =>
    rw [e] at p
    exact p.elim
  | some b =>
    rw [e] at p
    obtain ⟨d, ds, a1, a2, a3, a4, a5⟩ := inDB_dp S r1 r2 e
    rcases a2 with a2 | a2
    · exact .inl ⟨d, ds, a1, a2, a3, a4, by rw [a5]; exact p.now S _ (.bl _)⟩
    · exact .inr ⟨d, ds, a1, a2, a3, a4, by rw [if_pos rfl, a5]; exact p.now S _ (.bl _)⟩
end
end Mi
set_option maxHeartbeats 2000000
/-! Mi: exceptions: calls that may let one out, raise. -/
namespace Mi
open PySem L2
/-- a wish of exceptions that the context takes -/
abbrev Tk (X : Cx) (E : XK) : Prop := Takes X (fun cls d _ H => E cls d H)
theorem tk_pass {X : Cx} {E : XK} (tk : Tk X E) : Passes (L2.CX X.prog X.w) X E := passes_call tk fun _ _ _ _ h => h
@[simp ↓] def callX (f : MF) (ds : List MV) (a : MM (List MV)) : ME := fun s h => (a s h).bnd fun xs h1 => f (xs ++ ds) h1
@[simp ↓] def callKX (f : MF) (n k : Nat) (is : List Nat) (ds : List MV) (a kw : MM (List MV)) : ME := fun s h => (a s h).bnd fun xs h1 => (kw s h1).bnd fun zs h2 => if xs.length = n ∧ zs.length = k then f (pick is (xs ++ zs ++ ds)) h2 else none
section
variable {X : Cx} {c : XC} {E : XK} {k : Nat} {f : Addr} {fd : FuncData} {ps : List Str} {ds : List Value} {dvs : List V} {dms : List MV} {x : Str} {p pos : Pos} {e : Expr} {es : List Expr} {m : MM (List MV)} {np : Nat} {fM : MF}
theorem len_of {r : Res MV} {K : PySem.W.Frag} {C : Wd → MV → Prop} {W : Wd} {xs : List MV} {h : MH} (hn : ∀ xs h, (fM xs h).isSome = true → xs.length = np) (p : Pst K c C W (fM xs h)) : xs.length = np := by
  cases hf : fM xs h with
  | none =>
    rw [hf] at p
    exact p.elim
  | some o => exact hn _ h (by rw [hf]; rfl)
theorem len_ofN {K : PySem.W.Frag} {C : Wd → MV → Prop} {W : Wd} {xs : List MV} {h : MH} (hn : ∀ xs h, (fM xs h).isSome = true → xs.length = np) (p : Pst K c C W (noex (fM xs h))) : xs.length = np := by
  cases hf : fM xs h with
  | none =>
    rw [hf] at p
    exact p.elim
  | some o => exact hn _ h (by rw [hf]; rfl)
/-- f(e, ..), f may raise, but does not here -/
theorem em_callN (F : FnOk X.prog X.w X.K X.mg X.base (L2.CX X.prog X.w) k f fd ps (spM X.K X.mg np fM)) (hn : ∀ xs h, (fM xs h).isSome = true → xs.length = np) (hr : Room k X.A) (hg : Gl X x) (hm : X.mg x = some (.ref f)) (hk : PySem.W.keepIn X.K (.ref f) = true) (hb : Binds X.K fd ps ds) (hd : Vals dvs ds)
    (hd2 : ∀ W, RVs X.K W dms dvs) (ha : AM X c (e :: es) m) (hdb : (x == ("__debug__" : Str)) = false := by decide) (hs : starEach (e :: es) X.env = (false, eval e X.env) :: starEach es X.env := by rfl) (hpl : (backTo pos (starEach es X.env)).any (·.1) = false := by rfl) :
    EM X c (.Call (.Name x p) (e :: es) [] pos) (callM fM dms m) := pe_wk (pe_call F hr hg hm hk hb hd passL ha hdb hs hpl) fun σ H Q q => tCall_of hd2 hn q
theorem em_callN0 (F : FnOk X.prog X.w X.K X.mg X.base (L2.CX X.prog X.w) k f fd ps (spM X.K X.mg np fM)) (hn : ∀ xs h, (fM xs h).isSome = true → xs.length = np) (hr : Room k X.A) (hg : Gl X x) (hm : X.mg x = some (.ref f)) (hk : PySem.W.keepIn X.K (.ref f) = true) (hb : Binds X.K fd ps ds) (hd : Vals dvs ds)
    (hd2 : ∀ W, RVs X.K W dms dvs) (hdb : (x == ("__debug__" : Str)) = false := by decide) : EM X c (.Call (.Name x p) [] [] pos) (callM fM dms nilA) := pe_wk (pe_call0 F hr hg hm hk hb hd passL hdb) fun σ H Q ⟨W, h, s, eW, S, rs, q⟩ => by
  subst eW
  have q' : Pst X.K c (CV X.K Q) W (noex (fM ([] ++ dms) h)) := q
  exact ⟨W, h, dms, rfl, S, hd2 W, len_ofN hn q', noex_ok q'⟩
/-- .. what it raises goes on -/
theorem em_callX (tk : Tk X E) (F : FnOk X.prog X.w X.K X.mg X.base (L2.CX X.prog X.w) k f fd ps (spM X.K X.mg np fM)) (hn : ∀ xs h, (fM xs h).isSome = true → xs.length = np) (hr : Room k X.A) (hg : Gl X x) (hm : X.mg x = some (.ref f)) (hk : PySem.W.keepIn X.K (.ref f) = true) (hb : Binds X.K fd ps ds)
    (hd : Vals dvs ds) (hd2 : ∀ W, RVs X.K W dms dvs) (ha : AM X ⟨X.mg, E⟩ (e :: es) m) (hdb : (x == ("__debug__" : Str)) = false := by decide) (hs : starEach (e :: es) X.env = (false, eval e X.env) :: starEach es X.env := by rfl) (hpl : (backTo pos (starEach es X.env)).any (·.1) = false := by rfl) :
    EM X ⟨X.mg, E⟩ (.Call (.Name x p) (e :: es) [] pos) (callX fM dms m) := pe_wk (pe_call F hr hg hm hk hb hd (tk_pass tk) ha hdb hs hpl) fun σ H Q ⟨W, h, s, eW, S, rs, q⟩ => by
  subst eW
  refine ⟨W, h, s, rfl, S, rs, q.bnd fun W1 h1 xs x1 S1 p1 vs r1 => ?_⟩
  exact ⟨W1, h1, xs ++ dms, rfl, S1, r1.append (hd2 W1), len_of (r := none) hn p1, p1⟩
theorem em_callX0 (tk : Tk X E) (F : FnOk X.prog X.w X.K X.mg X.base (L2.CX X.prog X.w) k f fd ps (spM X.K X.mg np fM)) (hn : ∀ xs h, (fM xs h).isSome = true → xs.length = np) (hr : Room k X.A) (hg : Gl X x) (hm : X.mg x = some (.ref f)) (hk : PySem.W.keepIn X.K (.ref f) = true) (hb : Binds X.K fd ps ds)
    (hd : Vals dvs ds) (hd2 : ∀ W, RVs X.K W dms dvs) (hdb : (x == ("__debug__" : Str)) = false := by decide) : EM X ⟨X.mg, E⟩ (.Call (.Name x p) [] [] pos) (callX fM dms nilA) := pe_wk (pe_call0 F hr hg hm hk hb hd (tk_pass tk) hdb) fun σ H Q ⟨W, h, s, eW, S, rs, q⟩ => by
  subst eW
  have q' : Pst X.K ⟨X.mg, E⟩ (CV X.K Q) W (fM ([] ++ dms) h) := q
  exact ⟨W, h, dms, rfl, S, hd2 W, len_of (r := none) hn q', q'⟩
/-- f(k = v, ..): keywords alone, f may raise -/
theorem pe_kwG {CX : CXT} {ks : List Str} {sp : Sp} {kws : List Keyword} {tk : TA} {g : List Value → List Value → List Value} {gV : List V → List V → List V} (F : FnOk X.prog X.w X.K X.mg X.base CX k f fd ps sp) (hx : Passes CX X E) (hr : Room k X.A) (hg : Gl X x) (hm : X.mg x = some (.ref f))
    (hk : PySem.W.keepIn X.K (.ref f) = true) (hb : KBn X.K fd ps 0 ks g gV) (hkw : PK X kws tk) (hall : (backToKw pos (keywordEach kws X.env)).all (·.1.isSome) = true := by rfl) (hks : (backToKw pos (keywordEach kws X.env)).filterMap (·.1) = ks := by rfl)
    (hdb : (x == ("__debug__" : Str)) = false := by decide) (hpl : ((backTo pos (starEach [] X.env)).any (·.1) || (backToKw pos (keywordEach kws X.env)).any (·.1.isNone)) = false := by rfl) :
    PE X (.Call (.Name x p) [] kws pos) (tCallN 0 ks.length sp gV E tNil tk) := by
  refine ⟨fun pins s σ H Q I h => wpAny_Call_Name_kw (ld_glob I hg hm ?_ hdb)⟩
  refine PySem.W.callWith_KW0 (h₀ := X.base) I.ok.mod.kin hk hall (thn (hkw.run pos pins s σ H _ I h) fun ws s2 hh => ?_) hpl
  obtain ⟨zs, H2, I2, rz, l1, l2, q2⟩ := hh
  refine ⟨I2.kIn, ?_⟩
  rw [hks]
  exact run_fnN (us := []) F hr hb hx I2 .nil rz l1 l2 q2
theorem em_callKN0 {kk : Nat} {ks : List Str} {kws : List Keyword} {mk : MM (List MV)} {is : List Nat} {g : List Value → List Value → List Value} (F : FnOk X.prog X.w X.K X.mg X.base (L2.CX X.prog X.w) k f fd ps (spM X.K X.mg np fM)) (hn : ∀ xs h, (fM xs h).isSome = true → xs.length = np) (hr : Room k X.A) (hg : Gl X x)
    (hm : X.mg x = some (.ref f)) (hk : PySem.W.keepIn X.K (.ref f) = true) (hb : KBn X.K fd ps 0 ks g (fun vs zs => pick is (vs ++ zs ++ dvs))) (hd2 : ∀ W, RVs X.K W dms dvs) (hkw : KM X c kws mk) (hkk : ks.length = kk := by rfl) (hall : (backToKw pos (keywordEach kws X.env)).all (·.1.isSome) = true := by rfl)
    (hks : (backToKw pos (keywordEach kws X.env)).filterMap (·.1) = ks := by rfl) (hdb : (x == ("__debug__" : Str)) = false := by decide) (hpl : ((backTo pos (starEach [] X.env)).any (·.1) || (backToKw pos (keywordEach kws X.env)).any (·.1.isNone)) = false := by rfl) :
    EM X c (.Call (.Name x p) [] kws pos) (callKM fM 0 kk is dms nilA mk) := pe_wk (pe_kwG F passL hr hg hm hk hb hkw hall hks hdb hpl) fun σ H Q ⟨W, h, s, eW, S, rs, q⟩ => by
  subst eW
  subst hkk
  have p' : Pst X.K c (CV X.K Q) W ((mk s h).bnd fun zs h2 => if ([] : List MV).length = 0 ∧ zs.length = ks.length then noex (fM (pick is ([] ++ zs ++ dms)) h2) else none) := q
  refine ⟨W, h, s, rfl, S, rs, p'.bnd fun W2 h2 zs x2 S2 p2 ws r2 => ?_⟩
  by_cases z : ([] : List MV).length = 0 ∧ zs.length = ks.length
  · rw [if_pos z] at p2
    exact ⟨rfl, by rw [← r2.length]; exact z.2, W2, h2, _, rfl, S2, (((RVs.nil).append r2).append (hd2 W2)).pick is, len_ofN hn p2, noex_ok p2⟩
  · rw [if_neg z] at p2
    exact p2.elim
theorem em_callKX0 {kk : Nat} {ks : List Str} {kws : List Keyword} {mk : MM (List MV)} {is : List Nat} {g : List Value → List Value → List Value} (tk : Tk X E) (F : FnOk X.prog X.w X.K X.mg X.base (L2.CX X.prog X.w) k f fd ps (spM X.K X.mg np fM)) (hn : ∀ xs h, (fM xs h).isSome = true → xs.length = np) (hr : Room k X.A)
    (hg : Gl X x) (hm : X.mg x = some (.ref f)) (hk : PySem.W.keepIn X.K (.ref f) = true) (hb : KBn X.K fd ps 0 ks g (fun vs zs => pick is (vs ++ zs ++ dvs))) (hd2 : ∀ W, RVs X.K W dms dvs) (hkw : KM X ⟨X.mg, E⟩ kws mk) (hkk : ks.length = kk := by rfl) (hall : (backToKw pos (keywordEach kws X.env)).all (·.1.isSome) = true := by rfl)
    (hks : (backToKw pos (keywordEach kws X.env)).filterMap (·.1) = ks := by rfl) (hdb : (x == ("__debug__" : Str)) = false := by decide) (hpl : ((backTo pos (starEach [] X.env)).any (·.1) || (backToKw pos (keywordEach kws X.env)).any (·.1.isNone)) = false := by rfl) :
    EM X ⟨X.mg, E⟩ (.Call (.Name x p) [] kws pos) (callKX fM 0 kk is dms nilA mk) := pe_wk (pe_kwG F (tk_pass tk) hr hg hm hk hb hkw hall hks hdb hpl) fun σ H Q ⟨W, h, s, eW, S, rs, q⟩ => by
  subst eW
  subst hkk
  have p' : Pst X.K ⟨X.mg, E⟩ (CV X.K Q) W ((mk s h).bnd fun zs h2 => if ([] : List MV).length = 0 ∧ zs.length = ks.length then fM (pick is ([] ++ zs ++ dms)) h2 else none) := q
  refine ⟨W, h, s, rfl, S, rs, p'.bnd fun W2 h2 zs x2 S2 p2 ws r2 => ?_⟩
  by_cases z : ([] : List MV).length = 0 ∧ zs.length = ks.length
  · rw [if_pos z] at p2
    exact ⟨rfl, by rw [← r2.length]; exact z.2, W2, h2, _, rfl, S2, (((RVs.nil).append r2).append (hd2 W2)).pick is, len_of (r := none) hn p2, p2⟩
  · rw [if_neg z] at p2
    exact p2.elim
end
/-! ### defs that may raise -/
section
variable {P : Program} {w : World} {K : PySem.W.Frag} {mg : Str → Option Value} {base : Heap}
theorem fn_mirX {x qual : Str} {st : Stmt} {f : Addr} {fd : FuncData} {N ps : List Str} {k : Nat} {m : MT} (F : Fun K x qual st f fd) (S : FnScope N ps (defScope st))
    (hb : ∀ (cdv : Value) (A : Around) (outer : List Env) (s : Shared) (H : Hp) (E : XK), Room k (A.deeper (PyProof.Rows.envOfC qual (defScope st) s.heap.objs.size f cdv)) → Tk (cxOf (L2.CX P w) P w K mg base N qual (defScope st) f cdv A outer s H E) E →
      SsM (cxOf (L2.CX P w) P w K mg base N qual (defScope st) f cdv A outer s H E) ⟨mg, E⟩ (defBody st) m) : FnOk P w K mg base (L2.CX P w) (k + 1) f fd ps (spM K mg ps.length (defM ps.length N.length m)) := by
  refine F.okX S (fun vs H Q E h => ?_) (fun cdv A outer s H vs Q E hr h => ?_)
  · obtain ⟨W, h, xs, _, _, r, hl, _⟩ := h
    rw [← r.length, hl]
  · exact ⟨_, hb cdv A outer s H E hr (takes_of rfl rfl rfl rfl), body_ok h⟩
end
/-! ### raise -/
@[simp ↓] def raiseS (cls : Str) (fns : List Str) (a : MM (List MV)) : MT := fun s h => bndS (a s h) fun xs h1 => if xs.length = fns.length then some (.ex ⟨cls, fns.zip xs⟩ h1) else none
/-- C(e, ..), whose own __init__ keeps the values under the names fns -/
def tMkF (C : Addr) (fns : List Str) (ta : TA) : St → Hp → XK → Prop := fun σ H Q => ta σ H fun vs H1 => vs.length = fns.length ∧ ∀ d, H1 d = none → Q (.ref C) (some d) (upd H1 d (.xd (fns.zip vs)))
theorem rf_zip {K : PySem.W.Frag} {W : Wd} : ∀ {xs : List MV} {vs : List V} (fns : List Str), RVs K W xs vs → RF K W (fns.zip xs) (fns.zip vs)
  | _, _, [], _ => .nil
  | _, _, _ :: _, .nil => .nil
  | _, _, f :: fns, .cons r t => .cons r (rf_zip fns t)
section
variable {X : Cx} {E : XK} {e : Expr} {pos : Pos} {cls : Str} {C : Addr}
theorem s_raise0 (hc : X.calm = true) (tk : Tk X E) (hcl : X.mg cls = some (.ref C)) (he : PMk X e fun _ H Q => Q (.ref C) none H) : SM X ⟨X.mg, E⟩ (.Raise (some e) none pos) (raiseS cls [] nilA) := ps_wk (ps_raise hc tk he) fun D σ H ⟨W, h, s, eW, S, rs, p⟩ => by
  subst eW
  exact p W (.ref C) none (Ext.refl W) S ⟨hcl, [], .nil, .inl ⟨rfl, rfl⟩⟩
theorem s_raiseD {fns : List Str} {m : MM (List MV)} (hc : X.calm = true) (tk : Tk X E) (hcl : X.mg cls = some (.ref C)) (he : PMk X e (tMkF C fns (tMA X.K ⟨X.mg, E⟩ m))) : SM X ⟨X.mg, E⟩ (.Raise (some e) none pos) (raiseS cls fns m) := ps_wk (ps_raise hc tk he) fun D σ H ⟨W, h, s, eW, S, rs, p⟩ => by
  subst eW
  refine ⟨W, h, s, rfl, S, rs, p.bnd fun W1 h1 xs x1 S1 p1 vs r1 => ?_⟩
  by_cases z : xs.length = fns.length
  · rw [if_pos z] at p1
    refine ⟨by rw [← r1.length]; exact z, fun d hd => ?_⟩
    have x2 : Ext W1 (W1.put d (.xd (fns.zip vs))) := Ext.put S1 hd
    exact p1 _ (.ref C) (some d) x2 (S1.put hd) ⟨hcl, _, rf_zip fns (r1.mono x2), .inr ⟨d, rfl, S1.fresh hd, upd_same⟩⟩
  · rw [if_neg z] at p1
    exact p1.elim
/-- C(), no own __init__ -/
theorem pmk_own0 {bmB : List Value} {B newId initId : String} {p : Pos} (F : ExcBaseFacts B newId initId bmB) (q : PySem.W.excIn X.K C bmB newId = true) (gC : X.mg cls = some (.ref C)) (kC : PySem.W.keepIn X.K (.ref C) = true) (r : Raises X (.ref C)) (hg : Gl X cls)
    (hdb : (cls == ("__debug__" : Str)) = false := by decide) : PMk X (.Call (.Name cls p) [] [] pos) (fun _ H Q => Q (.ref C) none H) := by
  intro pins s σ H Q I h
  refine wpAny_Call_Name_kw (ld_glob I hg gC ?_ hdb)
  refine PySem.W.callWith_K0 I.kIn kC ?_
  obtain ⟨bm, N, nm, qn, bs, hdct, sn, sub, ab, col, dd, k0, k1, k2, k3, k5, mN, hC, hN, hni, T⟩ := exc_obj I.kIn q
  obtain ⟨hp, g, dr, tk, os⟩ := s
  exact wpAny_call_exc_subT F T hC hN hni (fun h' e hm => mk_of I hm r h (I.hok.gone hm.new)) (by rw [PySem.sizeLine_eq]; exact Nat.zero_le _)
end
end Mi
set_option maxHeartbeats 2000000
/-! Mi: try .. except, the suites. -/
namespace Mi
open PySem L2
/-- behind a suite: the clause's name is gone; no error leaves it -/
@[simp ↓] def wipeR (i : Nat) : Option OutS → Option OutS
  | some (.nx s h) => some (.nx (s.set i none) h)
  | some (.ret x h) => some (.ret x h)
  | some (.brk s h) => some (.brk (s.set i none) h)
  | some (.cnt s h) => some (.cnt (s.set i none) h)
  | _ => none
/-- the same at all addresses -/
noncomputable def allAd (g : Addr → Option Addr → Option OutS) : Option OutS :=
  haveI := Classical.propDecidable (∀ a d, g a d = g 0 none)
  if ∀ a d, g a d = g 0 none then g 0 none else none
theorem allAd_eq {g : Addr → Option Addr → Option OutS} {r : Option OutS} (h : ∀ a d, g a d = r) : allAd g = r := by
  unfold allAd
  rw [if_pos fun a d => by rw [h a d, h 0 none], h 0 none]
theorem allAd_at {g : Addr → Option Addr → Option OutS} {o : OutS} (e : allAd g = some o) (a : Addr) (d : Option Addr) : g a d = some o := by
  unfold allAd at e
  by_cases z : ∀ a d, g a d = g 0 none
  · rw [if_pos z] at e
    rw [z a d, e]
  · rw [if_neg z] at e
    cases e
abbrev exV (e : MX) (a : Addr) (d : Option Addr) : MV := .exc a d (e.flds.map (·.1)) (e.flds.map (·.2))
/-- try: body / except C as n: suite; tab: which class is below C; n slots, i the name's -/
noncomputable def tryS (body : MT) (tab : List (Str × Bool)) (n i : Nat) (suite : Str → Addr → Option Addr → MT) : MT := fun s h => match body s h with
  | some (.ex e h1) => match tab.lookup e.cls with
    | some true => allAd fun a d => wipeR i (suite e.cls a d ((List.replicate n none).set i (some (exV e a d))) h1)
    | some false => some (.ex e h1)
    | none => none
  | r => r
/-- .. except C: suite -/
@[simp ↓] def tryO (body : MT) (tab : List (Str × Bool)) (n : Nat) (suite : MT) : MT := fun s h => match body s h with
  | some (.ex e h1) => match tab.lookup e.cls with
    | some true => match suite (List.replicate n none) h1 with
      | some (.ex _ _) => none
      | r => r
    | some false => some (.ex e h1)
    | none => none
  | r => r
theorem rs_none {K : PySem.W.Frag} {W : Wd} : ∀ {n : Nat} {σ : St}, σ.length = n → RS K W (List.replicate n none) σ
  | 0, [], _ => .nil
  | n + 1, _ :: _, e => .no (rs_none (Nat.succ.inj e))
theorem rf_split {K : PySem.W.Frag} {W : Wd} : ∀ {fl : List (Str × MV)} {fs : List (Str × V)}, RF K W fl fs → RVs K W (fl.map (·.2)) (fs.map (·.2)) ∧ fs = (fl.map (·.1)).zip (fs.map (·.2))
  | _, _, .nil => ⟨.nil, rfl⟩
  | _, _, .cons r t => by
    obtain ⟨a, b⟩ := rf_split t
    exact ⟨.cons r a, congrArg (List.cons _) b⟩
theorem rf_nil {K : PySem.W.Frag} {W : Wd} {fl : List (Str × MV)} (r : RF K W fl []) : fl = [] := by
  cases r
  rfl
theorem exV_rv {K : PySem.W.Frag} {c : XC} {W : Wd} {e : MX} {C : Value} {d : Option Addr} (x : XR K c W e C d) (a : Addr) : RV K W (exV e a d) (.ref a) := by
  obtain ⟨_, fs, r, q⟩ := x
  rcases q with ⟨rfl, rfl⟩ | ⟨p, rfl, st, hp⟩
  · have z := rf_nil r
    unfold exV
    rw [z]
    exact .exc0
  · obtain ⟨r2, e2⟩ := rf_split r
    rw [e2] at hp
    exact .excD st hp r2
section
variable {X : Cx} {E : XK} {body suite : List Stmt} {b₀ : Stmt} {np pos pos' : Pos} {x y : Str} {cv : Value} {i : Nat} {tab : List (Str × Bool)} {mb : MT}
/-- what is wished of the errors of a try's body, at whatever slots -/
def anyS (n : Nat) (W : WX) : XK := fun cls d H => ∀ σ : St, σ.length = n → W cls d σ H
theorem tk_any {n : Nat} {W : WX} (hn : X.N.length = n) (tk : Takes X W) : Tk X (anyS n W) := fun u s' xx => by
  obtain ⟨a, B, sI, pins, σ, H, cls, d, e, I, nb, up, sky, na, os, ag, w⟩ := xx
  exact tk u s' ⟨a, B, sI, pins, σ, H, cls, d, e, I, nb, up, sky, na, os, ag, w σ (by rw [I.len, hn])⟩
theorem s_try_as {ms : Str → Addr → Option Addr → MT} {n : Nat} (hn : X.N.length = n) (hs : X.stack = X.env :: X.outer) (hf : X.env.frame = some X.env.locals) (hN : X.N.Nodup) (hi : X.N[i]? = some y) (hln : X.env.kindOf y = some .local) (hc : Names X x cv) (tk : Tk X E)
    (htab : ∀ nm b, tab.lookup nm = some b → ∀ C, X.mg nm = some C → PySem.W.exmOne X.K C cv = some b)
    (hb : ∀ (E' : XK) (pn : List (Addr × Obj)) (xe : Value → Shared → Prop), Tk (X.tr pn xe) E' → PassesOwn (model X.prog X.w) X.A X.env xe → SsM (X.tr pn xe) ⟨X.mg, E'⟩ body mb)
    (hsu : ∀ nm, tab.lookup nm = some true → ∀ C, X.mg nm = some C → ∀ (a : Addr) (oe : Obj) (d : Option Addr) (pn : List (Addr × Obj)), Zc C d oe → (∃ vs, oe.data = .fields vs) → SsM (X.suite a ((a, oe) :: pn)) ⟨X.mg, fun _ _ _ => False⟩ (b₀ :: suite) (ms nm a d)) :
    SM X ⟨X.mg, E⟩ (.Try body [.ExceptHandler (some (.Name x np)) (some y) (b₀ :: suite) pos'] [] [] pos) (tryS mb tab n i ms) := by
  refine ps_wk (ps_try_as (i := i) (c := cv) (Wout := fun cls d _ H => E cls d H) (tb := fun W => tS X.K ⟨X.mg, anyS n W⟩ mb)
    (ts := fun a cls d D σ H => ∃ nm, tab.lookup nm = some true ∧ X.mg nm = some cls ∧ tS X.K ⟨X.mg, fun _ _ _ => False⟩ (ms nm a d) D σ H) hs hf hN hi hln hc tk (fun W pn xe t po => hb _ pn xe (tk_any hn t) po)
    (fun a oe cls d pn hz hv => ⟨fun pins s σ H D I q => ?_⟩)) fun D σ H q => ?_
  · obtain ⟨nm, h1, h2, q⟩ := q
    exact (hsu nm h1 cls h2 a oe d pn hz hv).run pins s σ H D I q
  · obtain ⟨W, h, s, rfl, S, rs, p⟩ := q
    refine ⟨W, h, s, rfl, S, rs, ?_⟩
    have p' : PstS X.K ⟨X.mg, E⟩ D W (match mb s h with
      | some (.ex e h1) => (match tab.lookup e.cls with
        | some true => allAd fun a d => wipeR i (ms e.cls a d ((List.replicate n none).set i (some (exV e a d))) h1)
        | some false => some (.ex e h1)
        | none => none)
      | r => r) := p
    cases hm : mb s h with
    | none =>
      rw [hm] at p'
      exact p'.elim
    | some o =>
      rw [hm] at p'
      cases o with
      | nx s1 h1 => exact p'
      | ret x1 h1 => exact p'
      | brk s1 h1 => exact p'
      | cnt s1 h1 => exact p'
      | ex e h1 =>
        intro W1 C d x1 S1 xr σ1 hl
        have hC : X.mg e.cls = some C := xr.1
        cases ht : tab.lookup e.cls with
        | none =>
          simp only [ht] at p'
          exact p'.elim
        | some b =>
          simp only [ht] at p'
          refine ⟨b, htab _ _ ht _ hC, fun eb a ha => ?_, fun eb => ?_⟩
          · subst eb
            have p2 : PstS X.K ⟨X.mg, E⟩ D W (allAd fun a d => wipeR i (ms e.cls a d ((List.replicate n none).set i (some (exV e a d))) h1)) := p'
            cases hg : (allAd fun a d => wipeR i (ms e.cls a d ((List.replicate n none).set i (some (exV e a d))) h1)) with
            | none =>
              rw [hg] at p2
              exact p2.elim
            | some o =>
              rw [hg] at p2
              have g1 := allAd_at hg a d
              refine ⟨e.cls, ht, hC, W1, h1, _, rfl, S1, (rs_none hl).set (exV_rv xr a) i, ?_⟩
              have p3 := PstS.shift x1 p2
              cases hr : ms e.cls a d ((List.replicate n none).set i (some (exV e a d))) h1 with
              | none =>
                rw [hr] at g1
                cases g1
              | some o2 =>
                rw [hr] at g1
                cases o2 with
                | nx s2 h2 =>
                  cases g1
                  exact fun W2 σ2 x2 S2 r2 => p3 W2 _ x2 S2 (r2.clr i none)
                | ret v2 h2 =>
                  cases g1
                  exact p3
                | brk s2 h2 =>
                  cases g1
                  exact fun W2 σ2 x2 S2 r2 => p3 W2 _ x2 S2 (r2.clr i none)
                | cnt s2 h2 =>
                  cases g1
                  exact fun W2 σ2 x2 S2 r2 => p3 W2 _ x2 S2 (r2.clr i none)
                | ex e2 h2 => cases g1
          · subst eb
            exact p' W1 C d x1 S1 xr
theorem s_try_only {ms : MT} {n : Nat} (hn : X.N.length = n) (hs : X.stack = X.env :: X.outer) (hf : X.env.frame = some X.env.locals) (hc : Names X x cv) (tk : Tk X E)
    (htab : ∀ nm b, tab.lookup nm = some b → ∀ C, X.mg nm = some C → PySem.W.exmOne X.K C cv = some b)
    (hb : ∀ (E' : XK) (pn : List (Addr × Obj)) (xe : Value → Shared → Prop), Tk (X.tr pn xe) E' → PassesOwn (model X.prog X.w) X.A X.env xe → SsM (X.tr pn xe) ⟨X.mg, E'⟩ body mb)
    (hsu : ∀ (a : Addr) (oe : Obj) (pn : List (Addr × Obj)), SsM (X.suite a ((a, oe) :: pn)) ⟨X.mg, fun _ _ _ => False⟩ (b₀ :: suite) ms) :
    SM X ⟨X.mg, E⟩ (.Try body [.ExceptHandler (some (.Name x np)) none (b₀ :: suite) pos'] [] [] pos) (tryO mb tab n ms) := by
  refine ps_wk (ps_try_only (c := cv) (Wout := fun cls d _ H => E cls d H) (tb := fun W => tS X.K ⟨X.mg, anyS n W⟩ mb)
    (ts := fun a cls d => tS X.K ⟨X.mg, fun _ _ _ => False⟩ ms) hs hf hc tk (fun W pn xe t po => hb _ pn xe (tk_any hn t) po) (fun a oe cls d pn hz hv => hsu a oe pn)) fun D σ H q => ?_
  obtain ⟨W, h, s, rfl, S, rs, p⟩ := q
  refine ⟨W, h, s, rfl, S, rs, ?_⟩
  have p' : PstS X.K ⟨X.mg, E⟩ D W (match mb s h with
    | some (.ex e h1) => (match tab.lookup e.cls with
      | some true => (match ms (List.replicate n none) h1 with
        | some (.ex _ _) => none
        | r => r)
      | some false => some (.ex e h1)
      | none => none)
    | r => r) := p
  cases hm : mb s h with
  | none =>
    rw [hm] at p'
    exact p'.elim
  | some o =>
    rw [hm] at p'
    cases o with
    | nx s1 h1 => exact p'
    | ret x1 h1 => exact p'
    | brk s1 h1 => exact p'
    | cnt s1 h1 => exact p'
    | ex e h1 =>
      intro W1 C d x1 S1 xr σ1 hl
      have hC : X.mg e.cls = some C := xr.1
      cases ht : tab.lookup e.cls with
      | none =>
        simp only [ht] at p'
        exact p'.elim
      | some b =>
        simp only [ht] at p'
        refine ⟨b, htab _ _ ht _ hC, fun eb a ha => ?_, fun eb => ?_⟩
        · subst eb
          have p2 : PstS X.K ⟨X.mg, E⟩ D W (match ms (List.replicate n none) h1 with
            | some (.ex _ _) => none
            | r => r) := p'
          refine ⟨W1, h1, _, rfl, S1, rs_none hl, ?_⟩
          have p3 := PstS.shift x1 p2
          cases hr : ms (List.replicate n none) h1 with
          | none =>
            rw [hr] at p3
            exact p3.elim
          | some o2 =>
            rw [hr] at p3
            cases o2 with
            | nx s2 h2 => exact p3
            | ret v2 h2 => exact p3
            | brk s2 h2 => exact p3
            | cnt s2 h2 => exact p3
            | ex e2 h2 => exact p3.elim
        · subst eb
          exact p' W1 C d x1 S1 xr
end
end Mi
set_option maxHeartbeats 2000000
/-! Mi: what a suite asks of the error that it holds. -/
namespace Mi
open PySem L2
/-- e.f -/
@[simp ↓] def xfM (i : Nat) (a : Addr) (d : Option Addr) (f : Str) : ME := fun s h => match slot s i with
  | some (.exc a' d' fns xs) => if a' = a ∧ d' = d then (match (fns.zip xs).lookup f with
    | some v => ok v h
    | none => none) else none
  | _ => none
@[simp ↓] def optB (o : Option Bool) (h : MH) : Res MV := match o with
  | some b => ok (.bl b) h
  | none => none
/-- isinstance(e, ..), the answer known by the class -/
@[simp ↓] def isE (i : Nat) (a : Addr) (d : Option Addr) (o : Option Bool) : ME := fun s h => match slot s i with
  | some (.exc a' d' fns xs) => if a' = a ∧ d' = d then optB o h else none
  | _ => none
theorem zip_look {K : PySem.W.Frag} {W : Wd} {f : Str} {x : MV} : ∀ {fns : List Str} {xs : List MV} {vs : List V}, RVs K W xs vs → (fns.zip xs).lookup f = some x → ∃ v, (fns.zip vs).lookup f = some v ∧ RV K W x v
  | [], _, _, _, e => by cases e
  | _ :: _, _, _, .nil, e => by cases e
  | g :: fns, _, _, .cons r t, e => by
    rw [List.zip_cons_cons, List.lookup_cons] at e
    rw [List.zip_cons_cons, List.lookup_cons]
    cases q : f == g with
    | true =>
      rw [q] at e
      cases e
      exact ⟨_, rfl, r⟩
    | false =>
      rw [q] at e
      exact zip_look t e
/-- what an own error class must have for isinstance -/
structure KitE (K : PySem.W.Frag) (C : Addr) : Prop where
  cl : (PySem.W.clsIn K C).isSome = true
  ga : PySem.W.findIn K (.ref C) "__getattribute__" = some (some (.builtin "BaseException.__getattribute__"))
  gg : PySem.W.findIn K (.ref C) "__getattr__" = some none
  sb : PySem.W.subIn K (.ref C) (.type "BaseException") = some true
  ca : PySem.W.findIn K (.ref C) "__class__" = some (some (.builtin "object.__class__"))
  sg : PySem.W.specialIn K (.builtin "object.__class__") "__get__" = some (some (.builtin "getset_descriptor.__get__"))
  tk : PySem.W.takesIn K (.builtin "object.__class__") = some true
  mo : PySem.W.mroIn K C (.type "object") = some true
section
variable {X : Cx} {c : XC} {a C : Addr} {oe : Obj} {d : Option Addr} {pn : List (Addr × Obj)} {i : Nat} {y : Str} {pos p p2 p3 : Pos}
theorem slot_exc {K : PySem.W.Frag} {W : Wd} {C' : Wd → MV → Prop} {s : MS} {σ : St} {h : MH} {k : List Str → List MV → Res MV} (rs : RS K W s σ) (p : Pst K c C' W (match slot s i with
    | some (.exc a' d' fns xs) => if a' = a ∧ d' = d then k fns xs else none
    | _ => none)) : ∃ fns xs, σ[i]? = some (some (.ref a)) ∧ RV K W (.exc a d fns xs) (.ref a) ∧ Pst K c C' W (k fns xs) := by
  cases q : slot s i with
  | none =>
    rw [q] at p
    exact p.elim
  | some x =>
    rw [q] at p
    cases x <;> first | exact p.elim | skip
    rename_i a' d' fns xs
    have p' : Pst K c C' W (if a' = a ∧ d' = d then k fns xs else none) := p
    by_cases z : a' = a ∧ d' = d
    · rw [if_pos z] at p'
      obtain ⟨rfl, rfl⟩ := z
      obtain ⟨v, hv, r⟩ := rs.get (slot_eq s i q)
      have e : v = .ref a' := by
        cases r with
        | exc0 => rfl
        | excD => rfl
      subst e
      exact ⟨fns, xs, hv, r, p'⟩
    · rw [if_neg z] at p'
      exact p'.elim
theorem em_xf {f : Str} (hN : X.N[i]? = some y) (hv : Vis X.env.scope y) (T : XfC X.K C) (hno : PySem.W.findIn X.K (.ref C) f = some none) (hz : Zc (.ref C) d oe) (hf : ∃ vs, oe.data = .fields vs) (hd1 : (y == ("__debug__" : Str)) = false := by decide) (hd2 : (y == ("__classdict__" : Str)) = false := by decide)
    (hb : attributeBase (.Name y p) f X.env (eval (.Name y p) X.env) = eval (.Name y p) X.env := by rfl) : EM (X.suite a ((a, oe) :: pn)) c (.Attribute (.Name y p) f pos) (xfM i a d f) :=
  pe_wk (pe_xf T hno hz hf (pe_var (X := X.suite a ((a, oe) :: pn)) (i := i) hN hv hd1 hd2) hb) fun σ H Q ⟨W, h, s, eW, S, rs, q⟩ => by
    subst eW
    obtain ⟨fns, xs, h1, r, q2⟩ := slot_exc (k := fun fns xs => match (fns.zip xs).lookup f with
      | some v => ok v h
      | none => none) (h := h) rs q
    refine ⟨.ref a, h1, rfl, rfl, ?_⟩
    cases r with
    | exc0 =>
      rw [List.zip_nil_right] at q2
      exact q2.elim
    | @excD _ dd _ _ vs st hd r =>
      cases e : (fns.zip xs).lookup f with
      | none =>
        simp only [e] at q2
        exact q2.elim
      | some x =>
        simp only [e] at q2
        obtain ⟨v, hv, rv⟩ := zip_look r e
        exact ⟨dd, _, v, rfl, hd, hv, q2 W (Ext.refl W) S v rv⟩
/-- isinstance(e, c); isinstance(e, (c, ..)) -/
def rIsX (K : PySem.W.Frag) (C a : Addr) (d : Option Addr) : List V → Hp → VK → Prop := fun xs H Q => (d = none ∨ ∃ p fs, d = some p ∧ H p = some (.xd fs)) ∧
  ((∃ (k : V) (u : Value) (b : Bool), xs = [.ref a, k] ∧ ClsV k u ∧ PySem.W.kitOne K (.ref C) u = some b ∧ Q (.bl b) H) ∨
    ∃ (tp : Addr) (ks : List V) (us : List Value) (b : Bool), xs = [.ref a, .ref tp] ∧ H tp = some (.tup ks) ∧ Paired ClsV ks us ∧ PySem.W.kitAny K (.ref C) us = some b ∧ Q (.bl b) H)
theorem call_isX (T : KitE X.K C) (hz : Zc (.ref C) d oe) (hf : ∃ vs, oe.data = .fields vs) : CallR (X.suite a ((a, oe) :: pn)) (.builtin "isinstance") (rIsX X.K C a d) := by
  intro pins s σ H xs us Q I r h
  obtain ⟨hd, h⟩ := h
  obtain ⟨hget, _⟩ := I.pin (a, oe) (List.mem_append.mpr (.inl List.mem_cons_self))
  obtain ⟨vs, hv⟩ := hf
  have J : ∃ od, PySem.W.InstAt s.heap a oe C od := by
    rcases hd with rfl | ⟨p, fs, rfl, hp⟩
    · exact ⟨none, hget, hz.1, by unfold PySem.W.notCls; rw [hv] <;> rfl, by rw [hz.2]; trivial⟩
    · have hx : ObjOk X.prog X.w H s.heap p (.xd fs) := I.hok p _ hp
      obtain ⟨mA, hns, hr⟩ := hx
      obtain ⟨od, ho, hl⟩ := lookIn_ns hns
      exact ⟨some od, hget, hz.1, by unfold PySem.W.notCls; rw [hv] <;> rfl, by rw [hz.2]; exact ho⟩
  obtain ⟨od, J⟩ := J
  have Z := PySem.W.kitx_exc (x := a) (ox := oe) (od := od) T.cl T.ga T.gg T.sb T.ca T.sg T.tk T.mo
  rcases h with ⟨k, u, b, rfl, hk, e, q⟩ | ⟨tp, ks, ws, b, rfl, hT, hk, e, q⟩
  · obtain ⟨u1, u2, rfl, r1, r2⟩ := vals2 r
    have e2 := hk.eq r2
    subst e2
    cases (show u1 = Value.ref a from r1)
    exact PySem.W.kia_one Z I.kIn J e (fun z => nomatch z) fun tk => ⟨.bl b, H, I.tok tk, rfl, q⟩
  · obtain ⟨u1, u2, rfl, r1, r2⟩ := vals2 r
    cases (show u1 = Value.ref a from r1)
    cases (show u2 = Value.ref tp from r2)
    obtain ⟨_, its, rv, o, h1, h2, n, h3⟩ := (show ObjOk X.prog X.w H s.heap tp (.tup ks) from I.hok tp _ hT)
    have e3 := ClsV.all hk rv
    subst e3
    obtain ⟨oc, od', dt, sl⟩ := o
    simp only at h2 h3
    subst h2 h3
    exact PySem.W.kia_tup Z I.kIn J h1 e (fun z => nomatch z) fun tk => ⟨.bl b, H, I.tok tk, rfl, q⟩
theorem dict_of {K : PySem.W.Frag} {W : Wd} {fns : List Str} {xs : List MV} (r : RV K W (.exc a d fns xs) (.ref a)) : d = none ∨ ∃ p fs, d = some p ∧ W.H p = some (.xd fs) := by
  cases r with
  | exc0 => exact .inl rfl
  | excD st hd r => exact .inr ⟨_, _, rfl, hd⟩
theorem em_isX {T : Expr} {k : V} {u : Value} {o : Option Bool} (hN : X.N[i]? = some y) (hv : Vis X.env.scope y) (TE : KitE X.K C) (hz : Zc (.ref C) d oe) (hf : ∃ vs, oe.data = .fields vs) (hg : Gl X "isinstance") (hm : X.mg "isinstance" = none) (hk : ClsV k u) (hT : PE (X.suite a ((a, oe) :: pn)) T (tC k))
    (ho : ∀ b, o = some b → PySem.W.kitOne X.K (.ref C) u = some b) (hd1 : (y == ("__debug__" : Str)) = false := by decide) (hd2 : (y == ("__classdict__" : Str)) = false := by decide)
    (hs : starEach [.Name y p2, T] X.env = (false, eval (.Name y p2) X.env) :: starEach [T] X.env := by rfl) (hs2 : starEach [T] X.env = (false, eval T X.env) :: starEach [] X.env := by rfl)
    (hpl : (backTo pos (starEach [T] X.env)).any (·.1) = false := by rfl) : EM (X.suite a ((a, oe) :: pn)) c (.Call (.Name "isinstance" p) [.Name y p2, T] [] pos) (isE i a d o) :=
  pe_wk (pe_callB (call_isX TE hz hf) hg hm PyProof.Rows.boot_isinstance (pa_cons (pe_var (X := X.suite a ((a, oe) :: pn)) (i := i) hN hv hd1 hd2) (pa_cons hT pa_nil hs2) hs) (by decide) (by decide) hs hpl) fun σ H Q ⟨W, h, s, eW, S, rs, q⟩ => by
    subst eW
    obtain ⟨fns, xs, h1, r, q2⟩ := slot_exc (k := fun fns xs => optB o h) (h := h) rs q
    refine ⟨.ref a, h1, dict_of r, .inl ⟨k, u, ?_⟩⟩
    cases o with
    | none => exact q2.elim
    | some b => exact ⟨b, rfl, hk, ho b rfl, q2 W (Ext.refl W) S _ (.bl b)⟩
theorem em_isXT {Ts : List Expr} {n : Nat} {ks : List V} {us : List Value} {tt : TA} {o : Option Bool} (hN : X.N[i]? = some y) (hv : Vis X.env.scope y) (TE : KitE X.K C) (hz : Zc (.ref C) d oe) (hf : ∃ vs, oe.data = .fields vs) (hg : Gl X "isinstance") (hm : X.mg "isinstance" = none) (hk : Paired ClsV ks us)
    (hT : PA (X.suite a ((a, oe) :: pn)) Ts tt) (htt : ∀ σ H Q, Q ks H → tt σ H Q) (hl : ks.length ≤ 100) (ho : ∀ b, o = some b → PySem.W.kitAny X.K (.ref C) us = some b) (hd1 : (y == ("__debug__" : Str)) = false := by decide) (hd2 : (y == ("__classdict__" : Str)) = false := by decide)
    (hs : starEach [.Name y p2, .Tuple Ts n p3] X.env = (false, eval (.Name y p2) X.env) :: starEach [.Tuple Ts n p3] X.env := by rfl) (hs2 : starEach [.Tuple Ts n p3] X.env = (false, eval (.Tuple Ts n p3) X.env) :: starEach [] X.env := by rfl)
    (hpl : (backTo pos (starEach [.Tuple Ts n p3] X.env)).any (·.1) = false := by rfl) : EM (X.suite a ((a, oe) :: pn)) c (.Call (.Name "isinstance" p) [.Name y p2, .Tuple Ts n p3] [] pos) (isE i a d o) :=
  pe_wk (pe_callB (call_isX TE hz hf) hg hm PyProof.Rows.boot_isinstance (pa_cons (pe_var (X := X.suite a ((a, oe) :: pn)) (i := i) hN hv hd1 hd2) (pa_cons (pe_tup hT) pa_nil hs2) hs) (by decide) (by decide) hs hpl) fun σ H Q ⟨W, h, s, eW, S, rs, q⟩ => by
    subst eW
    obtain ⟨fns, xs, h1, r, q2⟩ := slot_exc (k := fun fns xs => optB o h) (h := h) rs q
    refine ⟨.ref a, h1, htt _ _ _ ⟨Nat.le_trans hl (by rw [PySem.sizeLine_eq]; decide), fun tp hq => ?_⟩⟩
    have x2 : Ext W (W.put tp (.tup ks)) := Ext.put S hq
    have r2 := dict_of (r.mono x2)
    cases o with
    | none => exact q2.elim
    | some b => exact ⟨r2, .inr ⟨tp, ks, us, b, rfl, upd_same, hk, ho b rfl, q2 _ x2 (S.put hq) _ (.bl b)⟩⟩
end
end Mi
set_option maxHeartbeats 4000000
/-! Mi: an own error class below ValueError whose __init__ says super().__init__('..') and keeps its one argument. -/
namespace Mi
open PySem L2 PySem.W PySem.Calls PyProof.Rows PySem.HandSPX
/-- the first def of a class's body -/
def initOf : Stmt → Stmt
  | .ClassDef _ _ _ (st :: _) _ _ _ _ _ _ _ => st
  | st => st
def supS (f : Str) : Scope where
  kind := .function
  names := [(Str.ofString "self", .local), (f, .local), (Str.ofString "__class__", .free), (Str.ofString "super", .globalImplicit)]
  isGenerator := false
  isCoroutine := false
  more := []
/-- what the text of __init__ says -/
structure SupTx (f : Str) (ist : Stmt) : Prop where
  body : ∃ msg j p0 p1 p2 p3 p4 p5 q1 q2 q3 q4, defBody ist = [.Expr (.Call (.Attribute (.Call (.Name "super" p0) [] [] p1) "__init__" p2) [.Constant (.str msg) j p3] [] p4) p5, .Assign [.Attribute (.Name "self" q1) f q2] (.Name f q3) q4] ∧
    ∃ pl : Sem Bool, ∀ (qual : Str) (L a : Addr) (cd : Value) (cc : Addr), eval (.Call (.Attribute (.Call (.Name "super" p0) [] [] p1) "__init__" p2) [.Constant (.str msg) j p3] [] p4) (ksEnv qual (supS f) L a cd cc) = (do
      let ov ← attributeBase (.Call (.Name "super" p0) [] [] p1) "__init__" (ksEnv qual (supS f) L a cd cc) (eval (.Call (.Name "super" p0) [] [] p1) (ksEnv qual (supS f) L a cd cc))
      standAt p2.atName
      let (fx, first) ← holding [ov] (getMethod ov "__init__" pl)
      callWith p4 fx first (backTo p4 (starEach [.Constant (.str msg) j p3] (ksEnv qual (supS f) L a cd cc))) [])
  head : ∃ ar, ((defArgs ist).posonlyargs ++ (defArgs ist).args).head? = some ar ∧ ar.arg = "self"
  bind : ∀ (s : Shared) (qual : Str) (kV doc pm : Value) (an : Option Addr) (cd ct : Value) (cc : Addr) (x v : Value), BindsTo s (ksFn "__init__" qual (defArgs ist) (defBody ist) (supS f) .none kV doc pm an cd ct cc) ⟨[x, v], []⟩ [("self", x), (f, v)]
  self : (supS f).names.lookup ("self" : Str) = some .local
  fld : (supS f).names.lookup f = some .local
  cls : (supS f).names.lookup ("__class__" : Str) = some .free
  sup : (supS f).names.lookup ("super" : Str) = some .globalImplicit
  nocell : ∀ x ∈ (supS f).names, x.2 ≠ .cell
  ne : f ≠ "self"
  nd : (f == ("__debug__" : Str)) = false
/-- what the written part says of the class -/
structure SupTxt (P : Program) (K : Frag) (mg : Str → Option Value) (cls qual f : Str) (ist : Stmt) (C fI : Addr) : Prop where
  gC : mg cls = some (.ref C)
  nsup : mg "super" = none
  cl : ∃ nm q N bs bm sn sub ab col dd k0 k1 k2 k3 k5, K.lookup C = some (excClassObj nm q C N bs bm true sn sub ab col dd k0 k1 k2 k3 k5 "ValueError.__new__") ∧ refsVE bm = true
  xi : excInitIn K C veTail "ValueError.__new__" = true
  sa : findIn K (.ref C) "__setattr__" = some (some (.builtin "object.__setattr__"))
  noN : findIn K (.ref C) f = some none
  iC : findIn K (.ref C) "__init__" = some (some (.ref fI))
  tI : typeIn K (.ref fI) = some (.type "function")
  kC : keepIn K (.ref C) = true
  exC : subIn K (.ref C) (.type "BaseException") = some true
  veC : subIn K (.ref C) (.type "ValueError") = some true
  tyC : typeIn K (.ref C) = some (.type "type")
  su : ks_superIn K C C "__init__" = some (some (.builtin "ValueError.__init__"))
  op : nsIn K cStatics "thirdparty.any" = some none
  mo : mroIn K C (.ref C) = some true
  fn : ∃ oc od kV doc pm an cda ct osl cc, K.lookup fI = some ⟨oc, od, .func (ksFn "__init__" qual (defArgs ist) (defBody ist) (supS f) .none kV doc pm an (.ref cda) ct cc), osl⟩ ∧ codeIn K (.ref cda) qual = true ∧
    (∃ ccl cdd vs ccs file tf, K.lookup cda = some ⟨ccl, cdd, .fields vs, ccs⟩ ∧ vs[2]? = some (.str file tf) ∧ ((P.main.file : Str) == file) = true) ∧ ∃ l ld lsl, K.lookup cc = some ⟨l, ld, .cell (some (.ref C)), lsl⟩
  top : (P.main.scope.names.lookup ("super" : Str)).isSome = false
/-- an error that was made -/
structure SupMade (h h' : Heap) (e C d : Addr) (f : Str) (v : Value) : Prop where
  keep : ∀ b o, h.get? b = some o → h'.get? b = some o
  new : h.objs.size ≤ e
  obj : ∃ t1 : Addr, h'.get? e = some { cls := .ref C, dict := some d, data := .fields #[.ref t1, .none, .none, .none, .bool false, .none] }
  dbig : h.objs.size ≤ d
  dne : d ≠ e
  ns : h'.Ns1 d (fun y => if y = f then some v else none)
section
variable {P : Program} {w : World} {A : Around} {R : Result → Shared → Prop} {s : Shared} {K : Frag} {mg : Str → Option Value} {cls qual f : Str} {ist : Stmt} {C fI : Addr}
theorem ks_env {name qual : Str} {params : Arguments} {body : List Stmt} {scope : Scope} {dV kV doc pm cdv ct : Value} {an : Option Addr} {cc L a : Addr} : callEnv (ksFn name qual params body scope dV kV doc pm an cdv ct cc) L a = ksEnv qual scope L a cdv cc := rfl
theorem sup_init {h0 : Heap} (X : SupTx f ist) (T : SupTxt P K mg cls qual f ist C fI) {x t0 : Addr} {v : Value} (k0 : K.In h0) (st : ∀ b o, h0.get? b = some o → s.heap.get? b = some o) (sz : h0.objs.size ≤ s.heap.objs.size) (nx : h0.get? x = none) (hg : h0.Ns mainGlobals mg)
    (hb : ∃ mb, h0.Ns builtinsNs mb ∧ ∀ x : Str, x ≠ "__name__" → mb x = bootBuiltins x) (hlim : s.heap.NoLimit) (hx : s.heap.get? x = some (excO C t0)) (hroom : A.depth < recursionLimit)
    (hq : ∀ h' tk dx t1, (∀ b o, h0.get? b = some o → h'.get? b = some o) → h'.get? x = some { cls := .ref C, dict := some dx, data := .fields #[.ref t1, .none, .none, .none, .bool false, .none] } → h0.objs.size ≤ dx → dx ≠ x → h'.Ns1 dx (fun y => if y = f then some v else none) →
      R (.ok (.ret .none)) { s with heap := h', toks := tk }) :
    codeAny (model P w) A (.call (.ref fI) ⟨[.ref x, v], []⟩) R s := by
  obtain ⟨oc, od, kV, doc, pm, an, cda, ct, osl, cc, hfn, hcd, ⟨ccl, cdd, vs, ccs, file, tf, hcda, hvs, hfile⟩, l, ld, lsl, hcc⟩ := T.fn
  obtain ⟨msg, j, p0, p1, p2, p3, p4, p5, q1, q2, q3, q4, eb, pl, he⟩ := X.body
  obtain ⟨ar, har, ear⟩ := X.head
  obtain ⟨nm, q, N, bs, bm, sn, sub, ab, col, dd, m0, m1, m2, m3, m5, hC, hbm⟩ := T.cl
  have hcl : clsIn K C = some { name := nm, bases := bs, mro := .ref C :: bm, ns := N, qualname := q, hasDict := true, slotNames := sn, subclasses := sub, abstract := ab, collection := col, hasDel := false } := by unfold clsIn; rw [hC] <;> rfl
  obtain ⟨mb, hb1, hb2⟩ := hb
  have KX : K.In s.heap := fun a o e => st a o (k0 a o e)
  refine ks_codeAny_call_defAt (fd := ksFn "__init__" qual (defArgs ist) (defBody ist) (supS f) .none kV doc pm an (.ref cda) ct cc) (body := defBody ist) (binds := [("self", .ref x), (f, v)]) hroom (KX _ _ hfn) rfl hlim (codeRec_of KX hcd) rfl (X.bind _ _ _ _ _ _ _ _ _ _ _) X.nocell (fun y hy => ?_) (fun h₁ hns k => ?_) rfl rfl rfl
  · rcases List.mem_cons.mp hy with rfl | hy
    · exact X.self
    · rw [List.mem_singleton.mp hy]
      exact X.fld
  have k1 : ∀ b o, h0.get? b = some o → h₁.get? b = some o := fun b o e => k b o (st b o e)
  have K1 : K.In h₁ := fun a o e => k1 a o (k0 a o e)
  have hself : ∀ {y : Str}, y = "self" → (fun y => ([("self", Value.ref x), (f, v)] : List (Str × Value)).reverse.lookup y) y = some (.ref x) := fun {y} e => by
    subst e
    have z : (("self" : Str) == f) = false := by
      rw [beq_eq_false_iff_ne]
      exact Ne.symm X.ne
    show List.lookup ("self" : Str) [(f, v), (("self" : Str), Value.ref x)] = _
    rw [List.lookup_cons, z, List.lookup_cons, beq_self_eq_true]
  have hfld : (fun y => ([("self", Value.ref x), (f, v)] : List (Str × Value)).reverse.lookup y) f = some v := by
    show List.lookup f [(f, v), (("self" : Str), Value.ref x)] = _
    rw [List.lookup_cons, beq_self_eq_true]
  have hxL : s.heap.objs.size ≠ x := Nat.ne_of_gt (Heap.lt_size hx)
  rw [ks_env, eb]
  obtain ⟨hh, g, d, tk, os⟩ := s
  dsimp only at hns k hx k1 K1 sz hxL
  have hD : h₁.get? C = _ := K1 _ _ hC
  refine ks_wpAt_execs_cons (ks_wpAt_Expr_any (ks_wpAt_MethodCall (pl := pl) ?_ (he _ _ _ _ _)))
  refine ks_wpAt_super_base X.sup X.cls rfl rfl (K1 _ _ hfn) rfl har rfl (K1 _ _ hcda) rfl hvs hfile T.top ?_
  refine ks_loadName_global rfl X.sup (Calls.loadGlobal_builtin (hg.keeps k1) T.nsup (hb1.keeps k1) ((hb2 _ (by decide)).trans (by first | rfl | kernel_rfl)) ⟨rfl, ?_⟩)
  refine wpAny_loadName_free rfl X.cls rfl ⟨_, K1 _ _ hcc, rfl⟩ ?_
  refine wpAny_loadName_local rfl (by rw [ear]; exact X.self) hns (hself ear) ?_
  refine ks_wpAny_isType_cls hD rfl ⟨rfl, ?_⟩
  refine ks_wpAny_call_super hD rfl (k _ _ hx) rfl (fun c z => nomatch z) (looks_mroIn K1 T.mo) (fun h2 e2 k2 => ?_)
  have k12 : ∀ b o, h0.get? b = some o → h2.get? b = some o := fun b o e => k2 b o (k1 b o e)
  have K2 : K.In h2 := fun a o e => k12 a o (k0 a o e)
  have hx2 : h2.get? x = some (excO C t0) := k2 _ _ (k _ _ hx)
  have I2 : InstAt h2 x (excO C t0) C none := ⟨hx2, rfl, rfl, trivial⟩
  have hsu := T.su
  unfold ks_superIn at hsu
  rw [hcl] at hsu
  refine kxs_getMethod kxs_ValueError e2 (looks_opaque K2 T.op) (l₀ := .ref C :: bm) (fun A Q E s k q => wpAny_bind ((looks_clsIn K2 hcl) A _ E s k (wpAny_pure q))) rfl K2 hsu (I2.type.andThen (looks_subIn K2 T.veC)) (ks_ne K2 I2 hcl) (by decide) ?_
  have lt2 : hh.objs.size < h2.objs.size := (hns.keeps k2).lt
  have u0 : h0.get? h2.objs.size = none := by
    cases z : h0.get? h2.objs.size with
    | none => rfl
    | some o => exact absurd (Heap.lt_size (k12 _ _ z)) (Nat.lt_irrefl _)
  have xu : x ≠ h2.objs.size := Nat.ne_of_lt (Heap.lt_size hx2)
  have F3 : Fr h0 hh.objs.size (h2.push (kxs_mw "ValueError.__init__" x)) _ := ⟨(hns.keeps k2).push _, fun b o e => Heap.get?_push_of_some _ (k12 b o e), sz⟩
  have N3 : News h0 hh.objs.size (h2.push (kxs_mw "ValueError.__init__" x)) [(h2.objs.size, kxs_mw "ValueError.__init__" x), (x, excObj C t0 none .none)] := fun p hp => by
    rcases List.mem_cons.mp hp with rfl | hp
    · exact ⟨Heap.get?_push_at rfl rfl, Nat.ne_of_gt lt2, u0⟩
    · rw [List.mem_singleton.mp hp]
      exact ⟨Heap.get?_push_of_some _ hx2, Ne.symm hxL, nx⟩
  refine kxs_callWith1 N3 (List.mem_cons_self ..) ?_ rfl rfl
  refine args_cons (Calls.Constant_str (args_nil ⟨Heap.get?_push_at rfl rfl, ?_⟩)) rfl
  refine kxs_call F3 k0 N3 F.excBase_ValueError T.xi (List.mem_cons_self ..) (.tail (Ne.symm xu) (.head (fun _ z => nomatch z))) (by rw [sizeLine_eq]; exact (by decide : 1 ≤ 16777216)) (fun t4 h4 F4 N4 _ => ?_)
  have hx4 : h4.get? x = some (excObj C t4 none .none) := (N4 (x, excObj C t4 none .none) (by simp)).1
  have K4 : K.In h4 := fun a o e => F4.keep a o (k0 a o e)
  show PySem.wpAt _ _ _ (execs _ _) _ _ _
  refine PySem.wpAt_of_wpAny (wpAny_execs_cons (plainObj_wpAny_Assign_Attribute ?_ rfl))
  refine wpAny_Name (wpAny_loadName_local rfl X.fld F4.ns hfld ?_) X.nd
  refine wpAny_Name (wpAny_loadName_local rfl X.self F4.ns (hself rfl) ?_) (by decide)
  refine set_plain K4 (ox := excO C t4) (od := none) ⟨hx4, rfl, rfl, trivial⟩ T.sa ?_
  refine exc_osa K4 hx4 hcl (show refsVE (.ref C :: bm) = true from hbm) rfl T.noN (fun h5 tk5 dx k5 dn dne hx5 hn5 => ?_)
  show wpAny _ _ (execs _ _) _ _ _
  refine wpAny_execs_nil (hq h5 tk5 dx t4 (fun b o e => ?_) hx5 (Nat.le_trans ?_ dn) dne hn5)
  · exact k5 b o (fun z => by rw [z, nx] at e; cases e) (F4.keep b o e)
  · exact Nat.le_of_lt (Nat.lt_of_le_of_lt sz F4.ns.lt)
theorem sup_made (X : SupTx f ist) (T : SupTxt P K mg cls qual f ist C fI) {v : Value} (K0 : K.In s.heap) (hg : s.heap.Ns mainGlobals mg) (hb : ∃ mb, s.heap.Ns builtinsNs mb ∧ ∀ x : Str, x ≠ "__name__" → mb x = bootBuiltins x) (hlim : s.heap.NoLimit) (hroom : A.depth + 1 < recursionLimit)
    (hq : ∀ h' tk e d, SupMade s.heap h' e C d f v → R (.ok (.ret (.ref e))) { s with heap := h', toks := tk }) : codeAny (model P w) A (.call (.ref C) ⟨[v], []⟩) R s := by
  obtain ⟨nm, q, N, bs, bm, sn, sub, ab, col, dd, m0, m1, m2, m3, m5, hC, hbm⟩ := T.cl
  obtain ⟨hp, g, dr, tk, os⟩ := s
  have k : ∀ b o, hp.get? b = some o → ((hp.push (kdv_tup [v])).push (excO C hp.objs.size)).get? b = some o := fun b o e => Heap.get?_push_of_some _ (Heap.get?_push_of_some _ e)
  have hx : ((hp.push (kdv_tup [v])).push (excO C hp.objs.size)).get? (hp.objs.size + 1) = some (excO C hp.objs.size) := by heap_get
  have nx : hp.get? (hp.objs.size + 1) = none := by
    cases z : hp.get? (hp.objs.size + 1) with
    | none => rfl
    | some o => exact absurd (Nat.lt_of_succ_lt (Heap.lt_size z)) (Nat.lt_irrefl _)
  refine call_own F.excBase_ValueError (fun Y => refsVE_contains Y bm hbm) (K0 _ _ hC) (looks_findIn K0 T.iC) (fun self => bind_fn K0 self T.tI) (by rw [sizeLine_eq]; exact (by decide : 1 ≤ 16777216)) ?_
  refine sup_init (s := ⟨(hp.push (kdv_tup [v])).push (excO C hp.objs.size), g, dr, tk, os⟩) (h0 := hp) X T K0 k (by rw [Heap.size_push, Heap.size_push]; omega) nx hg hb (hlim.keeps k) hx hroom fun h' tk' dx t1 kp hx' dn dne hns => ?_
  exact ⟨rfl, hq h' tk' (hp.objs.size + 1) dx ⟨kp, Nat.le_succ _, ⟨t1, hx'⟩, dn, dne, hns⟩⟩
end
section
variable {X : Cx} {cls qual f : Str} {ist : Stmt} {C fI : Addr} {a : Expr} {ta : TA} {p pos : Pos} {k : Nat}
/-- C(e) -/
theorem pmk_sup (TX : SupTx f ist) (T : SupTxt X.prog X.K X.mg cls qual f ist C fI) (hr : Room (k + 1) X.A) (ha : PA X [a] ta) (hg : Gl X cls) (hdb : (cls == ("__debug__" : Str)) = false := by decide)
    (he : starEach [a] X.env = (false, eval a X.env) :: starEach [] X.env := by rfl) (hpl : (backTo pos (starEach [] X.env)).any (·.1) = false := by rfl) : PMk X (.Call (.Name cls p) [a] [] pos) (tMkF C [f] ta) := by
  intro pins s σ H Q I h
  refine wpAny_Call_Name_kw (ld_glob I hg T.gC ?_ hdb)
  refine callWith_K (h₀ := X.base) I.ok.mod.kin T.kC (thn (ha.run pos pins s σ H _ I h) fun us s1 hh => ?_) he hpl
  obtain ⟨vs, H1, I1, r1, hl, q1⟩ := hh
  refine ⟨I1.kIn, ?_⟩
  cases r1 with
  | nil => cases hl
  | @cons v v' vs' us' rv rn =>
    cases rn with
    | cons _ _ => cases hl
    | nil =>
      have hlim := I1.nolimit
      obtain ⟨hp, g, dr, tk, os⟩ := s1
      obtain ⟨mb, hb1, hb2⟩ := I1.mod.blt
      refine wpAny_call (sup_made TX T I1.kIn (I1.mod.glob.keeps I1.bk) ⟨mb, hb1.keeps I1.bk, hb2⟩ hlim (by have := hr.dp; omega) fun h' tk' e d M => ?_)
      show MkP X pins σ Q (.ref e) ⟨h', g, dr, tk', os⟩
      obtain ⟨t1, hoe⟩ := M.obj
      obtain ⟨G, g1, g2⟩ := restrict h' fun b => decide (b ≠ e)
      have gk : ∀ b, b ≠ e → G.get? b = h'.get? b := fun b hb => g1 b (decide_eq_true hb)
      have ge : G.get? e = none := g2 e (by simp)
      have old : ∀ b o, hp.get? b = some o → G.get? b = some o := fun b o q => (gk b (Nat.ne_of_lt (Nat.lt_of_lt_of_le (Heap.lt_size q) M.new))).trans (M.keep b o q)
      have hns := M.ns
      have ob : ObjOk X.prog X.w (upd H1 d (.xd [(f, v)])) G d (.xd [(f, v)]) := ⟨_, hns.at fun o q => (gk d M.dne).trans q, relO_put (fs := []) rv fun _ => True.intro⟩
      have J : L2.Inv X pins σ (upd H1 d (.xd [(f, v)])) ⟨G, g, dr, tk', os⟩ := I1.laid (t' := tk') old M.dbig ob
      refine ⟨e, _, _, ⟨G, g, dr, tk', os⟩, _, .ref C, some d, rfl, J, fun b o q => ?_, ge, hoe, ⟨rfl, rfl⟩, rfl, rfl, ?_, rfl, I1.bare, raises_own T.exC T.tyC, q1 d (I1.hok.fresh M.dbig)⟩
      · by_cases hb : b = e
        · have q' : G.get? b = some o := q
          rw [hb, ge] at q'
          cases q'
        · exact (gk b hb).symm.trans q
      · rw [upd_ne (Ne.symm M.dne)]
        exact I1.hok.fresh M.new
end
end Mi
set_option maxHeartbeats 2000000
/-! Mi: the error classes, what the written part says of them. -/
namespace Mi
open PySem L2
theorem look_cons {nm c : Str} {b r : Bool} {l : List (Str × Bool)} (h : ((c, b) :: l).lookup nm = some r) : (nm = c ∧ b = r) ∨ l.lookup nm = some r := by
  rw [List.lookup_cons] at h
  cases e : nm == c with
  | true =>
    rw [e] at h
    exact .inl ⟨beq_iff_eq.mp e, Option.some.inj h⟩
  | false =>
    rw [e] at h
    exact .inr h
theorem is_ho {o : Option Bool} {b0 : Bool} {p : Bool → Prop} (h : o = some b0) (q : p b0) : ∀ b, o = some b → p b := fun b hb => by
  rw [h] at hb
  cases hb
  exact q
/-- an own error class -/
structure ErrC (K : PySem.W.Frag) (mg : Str → Option Value) (nm : Str) (C : Addr) : Prop where
  g : mg nm = some (.ref C)
  kp : PySem.W.keepIn K (.ref C) = true
  cl : PySem.W.isClsIn K C = true
  ty : PySem.W.typeIn K (.ref C) = some (.type "type")
  sb : PySem.W.subIn K (.ref C) (.type "BaseException") = some true
  ve : PySem.W.subIn K (.ref C) (.type "ValueError") = some true
  rf : PySem.W.subIn K (.ref C) (.ref C) = some true
  ga : PySem.W.findIn K (.ref C) "__getattribute__" = some (some (.builtin "BaseException.__getattribute__"))
  gg : PySem.W.findIn K (.ref C) "__getattr__" = some none
  ca : PySem.W.findIn K (.ref C) "__class__" = some (some (.builtin "object.__class__"))
  sg : PySem.W.specialIn K (.builtin "object.__class__") "__get__" = some (some (.builtin "getset_descriptor.__get__"))
  tk : PySem.W.takesIn K (.builtin "object.__class__") = some true
  mo : PySem.W.mroIn K C (.type "object") = some true
  hd : PySem.W.hasDictIn K C = true
section
variable {K : PySem.W.Frag} {mg : Str → Option Value} {nm nm2 : Str} {C D : Addr} {b : Bool}
theorem ErrC.kit (E : ErrC K mg nm C) : KitE K C := ⟨E.cl, E.ga, E.gg, E.sb, E.ca, E.sg, E.tk, E.mo⟩
theorem ErrC.xf (E : ErrC K mg nm C) : XfC K C := ⟨E.ga, E.gg, E.sb, E.hd⟩
theorem ErrC.raises {X : Cx} (E : ErrC X.K mg nm C) : Raises X (.ref C) := raises_own E.sb E.ty
theorem ErrC.kcls (E : ErrC K mg nm C) (F : ErrC K mg nm2 D) (s : PySem.W.subIn K (.ref C) (.ref D) = some b) : PySem.W.kitCls K (.ref C) (.ref D) = some b := by
  show (if ((PySem.W.clsIn K D).isSome && PySem.W.typeIn K (.ref D) == some (.type "type")) = true then PySem.W.subIn K (.ref C) (.ref D) else none) = some b
  have h : (PySem.W.clsIn K D).isSome = true := F.cl
  rw [h, F.ty]
  exact s
/-- except: does D's clause take an error of C? -/
theorem ErrC.exm (E : ErrC K mg nm C) (F : ErrC K mg nm2 D) (s : PySem.W.subIn K (.ref C) (.ref D) = some b) : PySem.W.exmOne K (.ref C) (.ref D) = some b := by
  show (if (PySem.W.subIn K (.ref D) (.type "BaseException") == some true) = true then PySem.W.kitCls K (.ref C) (.ref D) else none) = some b
  rw [F.sb]
  exact E.kcls F s
/-- isinstance -/
theorem ErrC.one (E : ErrC K mg nm C) (F : ErrC K mg nm2 D) (s : PySem.W.subIn K (.ref C) (.ref D) = some b) : PySem.W.kitOne K (.ref C) (.ref D) = some b := by
  unfold PySem.W.kitOne
  by_cases z : ((Value.ref C : Value) == .ref D) = true
  · rw [if_pos z]
    have e : C = D := Value.ref.inj (beq_iff_eq.mp z)
    subst e
    rw [E.rf] at s
    exact s
  · rw [if_neg z]
    exact E.kcls F s
theorem ErrC.oneV (E : ErrC K mg nm C) : PySem.W.kitOne K (.ref C) (.type "ValueError") = some true := by
  unfold PySem.W.kitOne
  rw [if_neg (by simp)]
  show (if PySem.W.kitMeta "ValueError" = true then PySem.W.subIn K (.ref C) (.type "ValueError") else none) = some true
  rw [if_pos (by decide +kernel)]
  exact E.ve
theorem kit_nil {t : Value} : PySem.W.kitAny K t [] = some false := rfl
theorem kit_cons {t c : Value} {cs : List Value} {r : Bool} (h : PySem.W.kitOne K t c = some b) (hr : PySem.W.kitAny K t cs = some r) : PySem.W.kitAny K t (c :: cs) = some (b || r) := kitAny_cons h (fun e => by
  subst e
  rw [hr]
  rfl) fun e => by
  subst e
  rfl
theorem mg_inj {v w : Value} (h : mg nm = some v) (k : mg nm = some w) : v = w := Option.some.inj (h.symm.trans k)
end
end Mi
set_option maxHeartbeats 2000000
/-! Mi: isinstance of an error that is made for it. -/
namespace Mi
open PySem L2
section
variable {X : Cx} {pins : List (Addr × Obj)} {σ : St} {H : Hp} {s : Shared} {a C : Addr} {oe : Obj} {d : Option Addr}
theorem isX_run {xs : List V} {us : List Value} {Q : VK} (T : KitE X.K C) (hz : Zc (.ref C) d oe) (hf : ∃ vs, oe.data = .fields vs) (hp : (a, oe) ∈ X.pn ++ pins) (I : Inv X pins σ H s) (r : Vals xs us) (h : rIsX X.K C a d xs H Q) :
    wpAny (model X.prog X.w) X.A (call (.builtin "isinstance") us) (EP X pins σ Q) X.xe s := by
  obtain ⟨hd, h⟩ := h
  obtain ⟨hget, _⟩ := I.pin (a, oe) hp
  obtain ⟨vs, hv⟩ := hf
  have J : ∃ od, PySem.W.InstAt s.heap a oe C od := by
    rcases hd with rfl | ⟨p, fs, rfl, hp⟩
    · exact ⟨none, hget, hz.1, by unfold PySem.W.notCls; rw [hv] <;> rfl, by rw [hz.2]; trivial⟩
    · have hx : ObjOk X.prog X.w H s.heap p (.xd fs) := I.hok p _ hp
      obtain ⟨mA, hns, hr⟩ := hx
      obtain ⟨od, ho, hl⟩ := lookIn_ns hns
      exact ⟨some od, hget, hz.1, by unfold PySem.W.notCls; rw [hv] <;> rfl, by rw [hz.2]; exact ho⟩
  obtain ⟨od, J⟩ := J
  have Z := PySem.W.kitx_exc (x := a) (ox := oe) (od := od) T.cl T.ga T.gg T.sb T.ca T.sg T.tk T.mo
  rcases h with ⟨k, u, b, rfl, hk, e, q⟩ | ⟨tp, ks, ws, b, rfl, hT, hk, e, q⟩
  · obtain ⟨u1, u2, rfl, r1, r2⟩ := vals2 r
    have e2 := hk.eq r2
    subst e2
    cases (show u1 = Value.ref a from r1)
    exact PySem.W.kia_one Z I.kIn J e (fun z => nomatch z) fun tk => ⟨.bl b, H, I.tok tk, rfl, q⟩
  · obtain ⟨u1, u2, rfl, r1, r2⟩ := vals2 r
    cases (show u1 = Value.ref a from r1)
    cases (show u2 = Value.ref tp from r2)
    obtain ⟨_, its, rv, o, h1, h2, n, h3⟩ := (show ObjOk X.prog X.w H s.heap tp (.tup ks) from I.hok tp _ hT)
    have e3 := ClsV.all hk rv
    subst e3
    obtain ⟨oc, od', dt, sl⟩ := o
    simp only at h2 h3
    subst h2 h3
    exact PySem.W.kia_tup Z I.kIn J h1 e (fun z => nomatch z) fun tk => ⟨.bl b, H, I.tok tk, rfl, q⟩
/-- the made error lies there, pinned -/
theorem mk_pin {Q : XK} {u : Value} {s' : Shared} (m : MkP X pins σ Q u s') : ∃ (a : Addr) (oe : Obj) (H' : Hp) (cls : Value) (d : Option Addr), u = .ref a ∧ L2.Inv X ((a, oe) :: pins) σ H' s' ∧ Zc cls d oe ∧ (∃ vs, oe.data = .fields vs) ∧ Q cls d H' := by
  obtain ⟨a, oe, vs, sI, H', cls, d, rfl, J, k, hne, ha, hz, hd, h1, na, os, ag, r, q⟩ := m
  have J1 : L2.Inv X pins σ H' s' := J.landed (B := PySem.W.hideAll sI.heap (frs X.stack)) (fun b o e hb => PySem.W.hideAll_get _ e hb) (fun b o e => k b o (PySem.W.of_hideAll _ e)) (Heap.UpToSlots.of_keeps k) os ag
  have nL : a ≠ X.env.locals := fun z => by
    obtain ⟨m, hn, _⟩ := J.loc
    obtain ⟨o, _, _, e, _⟩ := hn
    rw [z, e] at hne
    cases hne
  have nF : a ∉ X.fs := fun hm => by
    obtain ⟨_, o, e, _⟩ := J.ok.funs.mem hm
    obtain ⟨sl, e2⟩ := J.base.slot a o e (J.ok.frf a hm) hm fun hx => J.ok.exfs a hx hm
    rw [hne] at e2
    cases e2
  refine ⟨a, oe, H', cls, d, rfl, ⟨J1.ok, J1.os, J1.bare, J1.base, J1.loc, J1.cell, J1.free, J1.freeC, fun p hp => ?_, J1.hok, J1.len⟩, hz, ⟨vs, hd⟩, q⟩
  rcases List.mem_append.mp hp with hp | hp
  · exact J1.pin p (List.mem_append_left _ hp)
  · rcases List.mem_cons.mp hp with rfl | hp
    · exact ⟨ha, na, nL, nF, fun v z => by rw [hd] at z; cases z⟩
    · exact J1.pin p (List.mem_append_right _ hp)
theorem un_pin (I : L2.Inv X ((a, oe) :: pins) σ H s) : L2.Inv X pins σ H s := ⟨I.ok, I.os, I.bare, I.base, I.loc, I.cell, I.free, I.freeC, fun p hp => I.pin p ((List.mem_append.mp hp).elim (List.mem_append_left _) fun h => List.mem_append_right _ (List.mem_cons_of_mem _ h)), I.hok, I.len⟩
end
/-- isinstance(C(..), ..), the answer known -/
@[simp ↓] def isK (m : MM (List MV)) (n : Nat) (b : Bool) : ME := fun s h => (m s h).bnd fun xs h1 => if xs.length = n then ok (.bl b) h1 else none
/-- the second argument: what its evaluation leaves -/
def tSnd (tT : TE) (K : PySem.W.Frag) (C : Addr) (b : Bool) (d : Option Addr) : St → Hp → VK → Prop := fun σ H Q => tT σ H fun k H2 => ∀ a, rIsX K C a d [.ref a, k] H2 Q
section
variable {X : Cx} {c : XC} {C : Addr} {mk T : Expr} {t : St → Hp → XK → Prop} {tT : TE} {p pos : Pos}
theorem pe_isMk (hmk : PMk X mk t) (TE : KitE X.K C) (hg : Gl X "isinstance") (hm : X.mg "isinstance" = none) (hT : PE X T tT) (hs : starEach [mk, T] X.env = (false, eval mk X.env) :: starEach [T] X.env := by rfl) (hs2 : starEach [T] X.env = (false, eval T X.env) :: starEach [] X.env := by rfl)
    (hpl : (backTo pos (starEach [T] X.env)).any (·.1) = false := by rfl) : PE X (.Call (.Name "isinstance" p) [mk, T] [] pos) (fun σ H Q => t σ H fun cls d H1 => cls = .ref C ∧ tT σ H1 fun k H2 => ∀ a, rIsX X.K C a d [.ref a, k] H2 Q) := by
  refine ⟨fun pins s σ H Q I h => ?_⟩
  refine wpAny_Call_Name_kw (ld_blt I hg hm PyProof.Rows.boot_isinstance ?_ (by decide) (by decide))
  refine PyProof.Rows.callWith_builtin1 (PyProof.Rows.args_cons (wpAny_mono (hmk pins s σ H _ I h) (fun v s1 hv => ?_) fun _ _ x => x) hs) hs hpl
  obtain ⟨a, oe, H', cls, d, rfl, J, hz, hf, rfl, q⟩ := mk_pin hv
  refine PyProof.Rows.args_cons (thn (hT.run ((a, oe) :: pins) s1 σ H' _ J q) fun w s2 hw => ?_) hs2
  obtain ⟨k, H2, J2, rk, q2⟩ := hw
  refine PyProof.Rows.args_nil ?_
  refine wpAny_mono (isX_run TE hz hf (List.mem_append_right _ (List.mem_cons_self ..)) J2 (.cons (show RelV (.ref a) (.ref a) from rfl) (.cons rk .nil)) (q2 a)) (fun v s3 hv => ?_) fun _ _ x => x
  obtain ⟨v', H3, J3, rv, q3⟩ := hv
  exact ⟨v', H3, un_pin J3, rv, q3⟩
theorem em_isMk0 {k : V} {u : Value} {b : Bool} (hmk : PMk X mk fun _ H Q => Q (.ref C) none H) (TE : KitE X.K C) (hg : Gl X "isinstance") (hm : X.mg "isinstance" = none) (hT : PE X T (tC k)) (hk : ClsV k u) (hb : PySem.W.kitOne X.K (.ref C) u = some b)
    (hs : starEach [mk, T] X.env = (false, eval mk X.env) :: starEach [T] X.env := by rfl) (hs2 : starEach [T] X.env = (false, eval T X.env) :: starEach [] X.env := by rfl) (hpl : (backTo pos (starEach [T] X.env)).any (·.1) = false := by rfl) :
    EM X c (.Call (.Name "isinstance" p) [mk, T] [] pos) (isK nilA 0 b) := pe_wk (pe_isMk hmk TE hg hm hT hs hs2 hpl) fun σ H Q ⟨W, h, s, eW, S, rs, q⟩ => by
  subst eW
  exact ⟨rfl, fun a => ⟨.inl rfl, .inl ⟨k, u, b, rfl, hk, hb, q W (Ext.refl W) S _ (.bl b)⟩⟩⟩
theorem em_isMk0T {Ts : List Expr} {n : Nat} {p3 : Pos} {ks : List V} {us : List Value} {tt : TA} {b : Bool} (hmk : PMk X mk fun _ H Q => Q (.ref C) none H) (TE : KitE X.K C) (hg : Gl X "isinstance") (hm : X.mg "isinstance" = none) (hT : PA X Ts tt) (htt : ∀ σ H Q, Q ks H → tt σ H Q) (hl : ks.length ≤ 100)
    (hk : Paired ClsV ks us) (hb : PySem.W.kitAny X.K (.ref C) us = some b) (hs : starEach [mk, .Tuple Ts n p3] X.env = (false, eval mk X.env) :: starEach [.Tuple Ts n p3] X.env := by rfl) (hs2 : starEach [.Tuple Ts n p3] X.env = (false, eval (.Tuple Ts n p3) X.env) :: starEach [] X.env := by rfl)
    (hpl : (backTo pos (starEach [.Tuple Ts n p3] X.env)).any (·.1) = false := by rfl) : EM X c (.Call (.Name "isinstance" p) [mk, .Tuple Ts n p3] [] pos) (isK nilA 0 b) := pe_wk (pe_isMk hmk TE hg hm (pe_tup hT) hs hs2 hpl) fun σ H Q ⟨W, h, s, eW, S, rs, q⟩ => by
  subst eW
  refine ⟨rfl, htt _ _ _ ⟨Nat.le_trans hl (by rw [PySem.sizeLine_eq]; decide), fun tp hq a => ?_⟩⟩
  exact ⟨.inl rfl, .inr ⟨tp, ks, us, b, rfl, upd_same, hk, hb, q _ (Ext.put S hq) (S.put hq) _ (.bl b)⟩⟩
theorem em_isMkD {k : V} {u : Value} {b : Bool} {fns : List Str} {m : MM (List MV)} {nf : Nat} (hmk : PMk X mk (tMkF C fns (tMA X.K c m))) (hnf : fns.length = nf) (TE : KitE X.K C) (hg : Gl X "isinstance") (hm : X.mg "isinstance" = none) (hT : PE X T (tC k)) (hk : ClsV k u) (hb : PySem.W.kitOne X.K (.ref C) u = some b)
    (hs : starEach [mk, T] X.env = (false, eval mk X.env) :: starEach [T] X.env := by rfl) (hs2 : starEach [T] X.env = (false, eval T X.env) :: starEach [] X.env := by rfl) (hpl : (backTo pos (starEach [T] X.env)).any (·.1) = false := by rfl) :
    EM X c (.Call (.Name "isinstance" p) [mk, T] [] pos) (isK m nf b) := pe_wk (pe_isMk hmk TE hg hm hT hs hs2 hpl) fun σ H Q ⟨W, h, s, eW, S, rs, q⟩ => by
  subst eW
  refine ⟨W, h, s, rfl, S, rs, q.bnd fun W1 h1 xs x1 S1 p1 vs r1 => ?_⟩
  by_cases z : xs.length = nf
  · rw [if_pos z] at p1
    refine ⟨by rw [← r1.length, z, hnf], fun d hd => ⟨rfl, fun a => ⟨.inr ⟨d, _, rfl, upd_same⟩, .inl ⟨k, u, b, rfl, hk, hb, p1 _ (Ext.put S1 hd) (S1.put hd) _ (.bl b)⟩⟩⟩⟩
  · rw [if_neg z] at p1
    exact p1.elim
end
end Mi
set_option maxHeartbeats 2000000
/-! Mi: try with several clauses, each with a name. -/
namespace Mi
open PySem L2 PySem.Spec PyProof.Rows
abbrev Sui := Addr → Value → Option Addr → TS
def endsW (i : Nat) (D : Ends) : Ends where
  nx := fun τ G => D.nx (τ.set i none) G
  rt := D.rt
  bk := fun τ G => D.bk (τ.set i none) G
  ct := fun τ G => D.ct (τ.set i none) G
/-- what the named clauses wish, one behind the other: class, slot, suite -/
def wNamed (K : PySem.W.Frag) (Wout : WX) (D : Ends) : List (Value × Nat × Sui) → WX
  | [] => Wout
  | (c, i, ts) :: r => fun k d τ G => ∃ b, PySem.W.exmOne K k c = some b ∧ (b = true → ∀ a, G a = none → ts a k d (endsW i D) (τ.set i (some (.ref a))) G) ∧ (b = false → wNamed K Wout D r k d τ G)
inductive HdsN (X : Cx) : List ExceptHandler → List (Value × Nat × Sui) → Prop
  | nil : HdsN X [] []
  | cons {x n : Str} {c : Value} {i : Nat} {ts : Sui} {b₀ : Stmt} {rest : List Stmt} {q1 q2 : Pos} {hds : List ExceptHandler} {l : List (Value × Nat × Sui)} (hc : Names X x c) (hi : X.N[i]? = some n) (hl : X.env.kindOf n = some .local)
      (hsu : ∀ (a : Addr) (oe : Obj) (k : Value) (d : Option Addr) (pn : List (Addr × Obj)), Zc k d oe → (∃ vs, oe.data = .fields vs) → PSs (X.suite a ((a, oe) :: pn)) (b₀ :: rest) (ts a k d)) (r : HdsN X hds l) :
      HdsN X (.ExceptHandler (some (.Name x q1)) (some n) (b₀ :: rest) q2 :: hds) ((c, i, ts) :: l)
section
variable {X : Cx} {body : List Stmt} {h₀ : ExceptHandler} {hds : List ExceptHandler} {l : List (Value × Nat × Sui)} {pos : Pos} {tb : WX → TS} {Wout : WX}
/-- the clauses, looked at in turn with the error on the ground -/
theorem hds_run {pins : List (Addr × Obj)} {τ : L2.St} {G : Hp} {D : Ends} {a : Addr} {B : Heap} {sI s' : Shared} {k : Value} {d : Option Addr} (hs : X.stack = X.env :: X.outer) (hf : X.env.frame = some X.env.locals) (hN : X.N.Nodup) (tk : Takes X Wout) (J : L2.Inv X pins τ G sI)
    (nb : ∀ b o, sI.heap.get? b = some o → b ∉ frs X.stack → B.get? b = some o) (os : s'.os = sI.os) (ag : AllBare s'.gens) (na : G a = none) (fl : HandSPX.FlyingZ B (X.env :: X.outer) a (Zc k d) s'.heap) (up : sI.heap.UpToSlots s'.heap) :
    ∀ {hds : List ExceptHandler} {l : List (Value × Nat × Sui)}, HdsN X hds l → wNamed X.K Wout D l k d τ G → wpAny (model X.prog X.w) X.A (handleBy (.ref a) X.env hds) (SP X pins D) X.xe s' := by
  intro hds l hk
  have okX := J.ok
  have J3 : L2.Inv X pins τ G s' := J.landed nb fl.1 up os ag
  obtain ⟨o3, v3, g3, z3, d3⟩ := fl.there
  have nfr : a ∉ frs (X.env :: X.outer) := fun hm => by
    obtain ⟨_, o', e', hnf⟩ := fl.2.2.1.mem hm
    rw [g3] at e'
    cases e'
    exact hnf _ d3
  have nL : a ≠ X.env.locals := fun z => nfr (List.mem_filterMap.mpr ⟨X.env, List.mem_cons_self, by rw [hf, z]⟩)
  have nF : a ∉ X.fs := fun hm => by
    obtain ⟨e, he, q⟩ := List.mem_filterMap.mp hm
    exact nfr (List.mem_filterMap.mpr ⟨e, List.mem_cons_of_mem _ he, q⟩)
  induction hk with
  | nil =>
    intro w
    obtain ⟨k1, k2, k3, oe, vs, T, oT, ts', he, hz, hd, h1, hr⟩ := id fl
    refine wpAny_handleBy_nil ?_
    unfold PySem.passOn
    refine wpAny_bind (wpAny_field he hd h1 ?_)
    rw [if_neg (by simp)]
    have fin : wpAny (model X.prog X.w) X.A (setFlight (.ref a) X.env.frame) (fun _ u => wpAny (model X.prog X.w) X.A (throw (.ref a) : Sem Flow) (SP X pins D) X.xe u) X.xe s' := by
      rw [hf]
      refine HandSPX.setFlight_upZ fl fun h4 hh4 up4 => wpAny_throw (tk _ _ ⟨a, B, sI, pins, τ, G, k, d, rfl, J, nb, up.trans up4, .inr (.inr ?_), na, os, ag, w⟩)
      rw [hs]
      exact hh4
    first
      | exact wpAny_bind (wpAny_pure (wpAny_bind fin))
      | exact wpAny_bind fin
  | @cons x n c i ts b₀ rest q1 q2 hds2 l2 hc hi hl hsu r ih =>
    intro w
    obtain ⟨b, hb1, hyes, hno⟩ := w
    refine wpAny_handleBy_cons (codeAny_handlers_test ?_) (by intro q; cases q)
    have S3 := J3.suite g3 d3 na nL nF
    have LT : PySem.W.Looks (model X.prog X.w) s'.heap (typeOf (.ref a)) k := fun A Q E u kk q => wpAny_typeOf_ref (kk _ _ g3) (by rw [z3.1]; exact q)
    have LM := PySem.W.exm_one (M := model X.prog X.w) J3.kIn LT hb1
    have look : ∀ {Q E : Value → Shared → Prop}, Q c s' → wpAny (model X.prog X.w) (X.A.mark (some (.ref a))) (eval (.Name x q1) X.env) Q E s' := fun {Q E} q => by
      obtain ⟨hg, hdbg, hm⟩ := hc
      rcases hm with hm | ⟨hm, hv, hnn⟩
      · exact ld_glob (X := X.suite a ((a, o3) :: (X.pn ++ pins))) S3 hg hm q hdbg
      · exact ld_blt (X := X.suite a ((a, o3) :: (X.pn ++ pins))) S3 hg hm hv q hnn hdbg
    refine look (LM.here ?_)
    cases b with
    | false =>
      show wpAny _ X.A (handleBy (.ref a) X.env hds2) _ _ _
      exact ih (hno rfl)
    | true =>
      refine codeAny_handlers_suite_as (HandSPX.lands_againZ fl fun h4 fl4 up4 => ?_)
      have J4 : L2.Inv X pins τ G { s' with heap := h4 } := J.landed nb fl4.1 (up.trans up4) os ag
      obtain ⟨o4, v4, g4, z4, d4⟩ := fl4.there
      refine store_ok (X := X.suite a ((a, o4) :: (X.pn ++ pins))) (v := .ref a) (J4.suite g4 d4 na nL nF) hN hi (.inl hl) rfl (fun s5 S5 => ?_) (.inr hl)
      refine wpAny_mono ((hsu a o4 k d (X.pn ++ pins) z4 ⟨_, d4⟩).run [] s5 _ G _ S5 (hyes rfl a na)) (fun f s6 hsp => ?_) fun _ _ z => z.elim
      have ende : ∀ {τ6 : L2.St} {G6 : Hp} {Q : Shared → Prop}, L2.Inv (X.suite a ((a, o4) :: (X.pn ++ pins))) [] τ6 G6 s6 → (∀ s7, L2.Inv X pins (τ6.set i none) G6 s7 → Q s7) → wpAny (model X.prog X.w) X.A (do bindName X.env n .none; unbindBehindTheSuite X.env n q2) (fun _ s7 => Q s7) X.xe s6 :=
        fun {τ6 G6 Q} S6 hq => gone_ok (S6.unsuite okX) hN hi hl hq
      cases f with
      | next =>
        obtain ⟨τ6, G6, S6, e6⟩ := hsp
        exact ende S6 fun s7 J7 => ⟨_, _, J7, e6⟩
      | brk =>
        obtain ⟨τ6, G6, S6, e6⟩ := hsp
        exact ende S6 fun s7 J7 => ⟨_, _, J7, e6⟩
      | cont =>
        obtain ⟨τ6, G6, S6, e6⟩ := hsp
        exact ende S6 fun s7 J7 => ⟨_, _, J7, e6⟩
      | ret u =>
        obtain ⟨v6, τ6, G6, S6, r6, e6⟩ := hsp
        exact ende S6 fun s7 J7 => ⟨_, _, _, J7, r6, e6⟩
theorem ps_try_named (hs : X.stack = X.env :: X.outer) (hf : X.env.frame = some X.env.locals) (hN : X.N.Nodup) (tk : Takes X Wout)
    (hb : ∀ (W : WX) (pn : List (Addr × Obj)) (xe : Value → Shared → Prop), Takes (X.tr pn xe) W → PassesOwn (model X.prog X.w) X.A X.env xe → PSs (X.tr pn xe) body (tb W)) (hh : HdsN X (h₀ :: hds) l) :
    PS X (.Try body (h₀ :: hds) [] [] pos) fun D σ H => tb (wNamed X.K Wout D l) D σ H := by
  refine ⟨fun pins s σ H D I h => wpAny_Try_except ?_⟩
  have okX := I.ok
  have fr : X.A.frames = some (X.env :: X.outer) := okX.frames.trans (by rw [hs])
  have run := (hb (wNamed X.K Wout D l) (X.pn ++ pins) (fun e t => wpAny (model X.prog X.w) X.A (noteFrame e X.env) (fun _ t2 => wpAny (model X.prog X.w) X.A (setFlight e none) (fun _ t3 => wpAny (model X.prog X.w) X.A (handleBy e X.env (h₀ :: hds)) (SP X pins D) X.xe t3) X.xe t2) X.xe t) (fun u s' xx => by
    obtain ⟨a, B, sI, pins', τ, G, k, d, rfl, J', nb, up, sky, na, os, ag, w⟩ := xx
    have sky2 : Sky B (X.env :: X.outer) a (Zc k d) X.env.locals s'.heap := by
      rw [← hs]
      exact sky
    exact Sky.land Zc.steady fr hf sky2 fun h3 fl3 up3 => hds_run (s' := { s' with heap := h3 }) hs hf hN tk (J'.ofTry okX) nb os ag na fl3 (up.trans up3) hh w) PassesOwn.looking).run [] s σ H D (I.toTry _) h
  refine wpAny_mono run (fun f s1 hsp => ?_) fun e s1 he => he
  cases f with
  | ret u =>
    obtain ⟨v, τ, G, J, r, e⟩ := hsp
    exact ⟨v, τ, G, J.ofTry okX, r, e⟩
  | next =>
    obtain ⟨τ, G, J, e⟩ := hsp
    exact wpAny_execs_nil ⟨τ, G, J.ofTry okX, e⟩
  | brk =>
    obtain ⟨τ, G, J, e⟩ := hsp
    exact ⟨τ, G, J.ofTry okX, e⟩
  | cont =>
    obtain ⟨τ, G, J, e⟩ := hsp
    exact ⟨τ, G, J.ofTry okX, e⟩
end
end Mi
set_option maxHeartbeats 2000000
/-! Mi: several clauses, by their mirrors. -/
namespace Mi
open PySem L2
abbrev Cls := List (Str × Bool) × Nat × (Str → Addr → Option Addr → MT)
noncomputable def hdsM (n : Nat) (e : MX) (h1 : MH) : List Cls → Option OutS
  | [] => some (.ex e h1)
  | (tab, i, suite) :: r => match tab.lookup e.cls with
    | some true => allAd fun a d => wipeR i (suite e.cls a d ((List.replicate n none).set i (some (exV e a d))) h1)
    | some false => hdsM n e h1 r
    | none => none
/-- try: body, clauses with names -/
noncomputable def tryN (body : MT) (n : Nat) (cs : List Cls) : MT := fun s h => match body s h with
  | some (.ex e h1) => hdsM n e h1 cs
  | r => r
def suiT (K : PySem.W.Frag) (mg : Str → Option Value) (tab : List (Str × Bool)) (ms : Str → Addr → Option Addr → MT) : Sui := fun a k d D σ H => ∃ nm, tab.lookup nm = some true ∧ mg nm = some k ∧ tS K ⟨mg, fun _ _ _ => False⟩ (ms nm a d) D σ H
inductive HdsM (X : Cx) : List ExceptHandler → List Cls → List (Value × Nat × Sui) → Prop
  | nil : HdsM X [] [] []
  | cons {x y : Str} {cv : Value} {i : Nat} {tab : List (Str × Bool)} {ms : Str → Addr → Option Addr → MT} {b₀ : Stmt} {rest : List Stmt} {q1 q2 : Pos} {hds : List ExceptHandler} {cs : List Cls} {l : List (Value × Nat × Sui)} (hc : Names X x cv) (hi : X.N[i]? = some y) (hl : X.env.kindOf y = some .local)
      (htab : ∀ nm b, tab.lookup nm = some b → ∀ C, X.mg nm = some C → PySem.W.exmOne X.K C cv = some b)
      (hsu : ∀ nm, tab.lookup nm = some true → ∀ C, X.mg nm = some C → ∀ (a : Addr) (oe : Obj) (d : Option Addr) (pn : List (Addr × Obj)), Zc C d oe → (∃ vs, oe.data = .fields vs) → SsM (X.suite a ((a, oe) :: pn)) ⟨X.mg, fun _ _ _ => False⟩ (b₀ :: rest) (ms nm a d)) (r : HdsM X hds cs l) :
      HdsM X (.ExceptHandler (some (.Name x q1)) (some y) (b₀ :: rest) q2 :: hds) ((tab, i, ms) :: cs) ((cv, i, suiT X.K X.mg tab ms) :: l)
section
variable {X : Cx} {E : XK} {body : List Stmt} {h₀ : ExceptHandler} {hds : List ExceptHandler} {pos : Pos} {mb : MT} {cs : List Cls} {l : List (Value × Nat × Sui)}
theorem HdsM.named (h : HdsM X hds cs l) : HdsN X hds l := by
  induction h with
  | nil => exact .nil
  | cons hc hi hl htab hsu r ih =>
    refine .cons hc hi hl (fun a oe k d pn hz hv => ⟨fun pins s σ H D I q => ?_⟩) ih
    obtain ⟨nm, h1, h2, q⟩ := q
    exact (hsu nm h1 k h2 a oe d pn hz hv).run pins s σ H D I q
theorem wipe_ends {K : PySem.W.Frag} {c : XC} {D : Ends} {W : Wd} {i : Nat} {r : Option OutS} {o : OutS} {c2 : XC} (e : wipeR i r = some o) (p : PstS K c D W (some o)) : PstS K c2 (endsW i D) W r := by
  cases r with
  | none => cases e
  | some o2 =>
    cases o2 with
    | nx s2 h2 =>
      cases e
      exact fun W2 σ2 x2 S2 r2 => p W2 _ x2 S2 (r2.clr i none)
    | ret v2 h2 =>
      cases e
      exact p
    | brk s2 h2 =>
      cases e
      exact fun W2 σ2 x2 S2 r2 => p W2 _ x2 S2 (r2.clr i none)
    | cnt s2 h2 =>
      cases e
      exact fun W2 σ2 x2 S2 r2 => p W2 _ x2 S2 (r2.clr i none)
    | ex e2 h2 => cases e
theorem hdsM_ok {n : Nat} {D : Ends} {W W1 : Wd} {e : MX} {h1 : MH} {C : Value} {d : Option Addr} {σ1 : St} (x1 : Ext W W1) (S1 : Sim X.K W1 h1) (xr : XR X.K ⟨X.mg, E⟩ W1 e C d) (hl : σ1.length = n) (h : HdsM X hds cs l) :
    PstS X.K ⟨X.mg, E⟩ D W (hdsM n e h1 cs) → wNamed X.K (fun cls d _ H => E cls d H) D l C d σ1 W1.H := by
  have hC : X.mg e.cls = some C := xr.1
  induction h with
  | nil => exact fun p => p W1 C d x1 S1 xr
  | @cons x y cv i tab ms b₀ rest q1 q2 hds cs l hc hi hln htab hsu r ih =>
    intro p
    unfold hdsM at p
    cases ht : tab.lookup e.cls with
    | none =>
      simp only [ht] at p
      exact p.elim
    | some b =>
      simp only [ht] at p
      refine ⟨b, htab _ _ ht _ hC, fun eb a ha => ?_, fun eb => ?_⟩
      · subst eb
        have p2 : PstS X.K ⟨X.mg, E⟩ D W (allAd fun a d => wipeR i (ms e.cls a d ((List.replicate n none).set i (some (exV e a d))) h1)) := p
        cases hg : (allAd fun a d => wipeR i (ms e.cls a d ((List.replicate n none).set i (some (exV e a d))) h1)) with
        | none =>
          rw [hg] at p2
          exact p2.elim
        | some o =>
          rw [hg] at p2
          exact ⟨e.cls, ht, hC, W1, h1, _, rfl, S1, (rs_none hl).set (exV_rv xr a) i, wipe_ends (allAd_at hg a d) (PstS.shift x1 p2)⟩
      · subst eb
        exact ih p
theorem s_try_named {n : Nat} (hn : X.N.length = n) (hs : X.stack = X.env :: X.outer) (hf : X.env.frame = some X.env.locals) (hN : X.N.Nodup) (tk : Tk X E)
    (hb : ∀ (E' : XK) (pn : List (Addr × Obj)) (xe : Value → Shared → Prop), Tk (X.tr pn xe) E' → PassesOwn (model X.prog X.w) X.A X.env xe → SsM (X.tr pn xe) ⟨X.mg, E'⟩ body mb) (hh : HdsM X (h₀ :: hds) cs l) :
    SM X ⟨X.mg, E⟩ (.Try body (h₀ :: hds) [] [] pos) (tryN mb n cs) := by
  refine ps_wk (ps_try_named (Wout := fun cls d _ H => E cls d H) (tb := fun W => tS X.K ⟨X.mg, anyS n W⟩ mb) hs hf hN tk (fun W pn xe t po => hb _ pn xe (tk_any hn t) po) hh.named) fun D σ H q => ?_
  obtain ⟨W, h, s, rfl, S, rs, p⟩ := q
  refine ⟨W, h, s, rfl, S, rs, ?_⟩
  have p' : PstS X.K ⟨X.mg, E⟩ D W (match mb s h with
    | some (.ex e h1) => hdsM n e h1 cs
    | r => r) := p
  cases hm : mb s h with
  | none =>
    rw [hm] at p'
    exact p'.elim
  | some o =>
    rw [hm] at p'
    cases o with
    | nx s1 h1 => exact p'
    | ret x1 h1 => exact p'
    | brk s1 h1 => exact p'
    | cnt s1 h1 => exact p'
    | ex e h1 => exact fun W1 C d x1 S1 xr σ1 hl => hdsM_ok x1 S1 xr hl hh p'
end
end Mi
set_option maxHeartbeats 2000000
/-! Mi: places behind a call or a turn are forgotten; slots are wiped. -/
namespace Mi
open PySem L2
mutual
/-- no place from n on in it -/
def cloV (n : Nat) : MV → Bool
  | .ref l => decide (l < n)
  | .tup xs => cloL n xs
  | .ktp xs => cloL n xs
  | .fls xs => cloL n xs
  | .frz xs => cloL n xs
  | .exc _ _ _ xs => cloL n xs
  | .non => true
  | .bl _ => true
  | .int _ => true
  | .str _ => true
def cloL (n : Nat) : List MV → Bool
  | [] => true
  | x :: xs => cloV n x && cloL n xs
end
def cloO (n : Nat) : MO → Bool
  | .dead => true
  | .lst xs => cloL n xs
  | .dK kvs => cloL n (kvs.map (·.2))
def cloS (n : Nat) : MS → Bool
  | [] => true
  | none :: s => cloS n s
  | some x :: s => cloV n x && cloS n s
def CutOk (h h' : MH) : Prop := h.length ≤ h'.length ∧ ∀ i, i < h.length → h'[i]? = h[i]? ∨ ∃ o, h'[i]? = some o ∧ cloO h.length o = true
open Classical in
noncomputable def cutF (f : MF) : MF := fun xs h => match f xs h with
  | some (.ok v h') => if cloV h.length v = true ∧ CutOk h h' then ok v (h'.take h.length) else ok v h'
  | r => r
def Wd.cut (W : Wd) (n : Nat) : Wd := ⟨fun l => if l < n then W.f l else none, n, W.H, W.hid⟩
section
variable {K : PySem.W.Frag} {W W0 : Wd}
theorem Wd.cut_some {n l : Nat} {a : Addr} (e : (W.cut n).f l = some a) : l < n ∧ W.f l = some a := by
  have e' : (if l < n then W.f l else none) = some a := e
  by_cases h : l < n
  · rw [if_pos h] at e'
    exact ⟨h, e'⟩
  · rw [if_neg h] at e'
    cases e'
theorem Stab.cut {n : Nat} {p : Addr} (s : Stab W p) : Stab (W.cut n) p := ⟨fun l e => s.1 l (Wd.cut_some e).2, s.2⟩
mutual
theorem RV.cutp {n : Nat} : ∀ {m : MV} {v : V}, cloV n m = true → RV K W m v → RV K (W.cut n) m v
  | _, _, _, .non => .non
  | _, _, _, .bl b => .bl b
  | _, _, _, .int i => .int i
  | _, _, _, .str s => .str s
  | _, _, q, .ref lt e => .ref (of_decide_eq_true q) fun b hb => e b (Wd.cut_some hb).2
  | _, _, q, .tup s e r => .tup s.cut e (RVs.cutp q r)
  | _, _, q, .tupK e r => .tupK e (RVs.cutp q r)
  | _, _, q, .fls s e r => .fls s.cut e (RVs.cutp q r)
  | _, _, q, .frz s e r => .frz s.cut e (RVs.cutp q r)
  | _, _, q, .frzK e r => .frzK e (RVs.cutp q r)
  | _, _, _, .exc0 => .exc0
  | _, _, q, .excD s e r => .excD s.cut e (RVs.cutp q r)
theorem RVs.cutp {n : Nat} : ∀ {ms : List MV} {vs : List V}, cloL n ms = true → RVs K W ms vs → RVs K (W.cut n) ms vs
  | _, _, _, .nil => .nil
  | _, _, q, .cons r t => by
    have q' : (cloV n _ && cloL n _) = true := q
    rw [Bool.and_eq_true] at q'
    exact .cons (RV.cutp q'.1 r) (RVs.cutp q'.2 t)
end
mutual
theorem RV.clo : ∀ {m : MV} {v : V}, RV K W m v → cloV W.n m = true
  | _, _, .non => rfl
  | _, _, .bl b => rfl
  | _, _, .int i => rfl
  | _, _, .str s => rfl
  | _, _, .ref lt e => decide_eq_true lt
  | _, _, .tup s e r => RVs.clo r
  | _, _, .tupK e r => RVs.clo r
  | _, _, .fls s e r => RVs.clo r
  | _, _, .frz s e r => RVs.clo r
  | _, _, .frzK e r => RVs.clo r
  | _, _, .exc0 => rfl
  | _, _, .excD s e r => RVs.clo r
theorem RVs.clo : ∀ {ms : List MV} {vs : List V}, RVs K W ms vs → cloL W.n ms = true
  | _, _, .nil => rfl
  | _, _, .cons r t => by
    show (cloV W.n _ && cloL W.n _) = true
    rw [RV.clo r, RVs.clo t]
    rfl
end
theorem RKV.clo {κ : Type} : ∀ {ms : List (κ × MV)} {vs : List (κ × V)}, RKV K W ms vs → cloL W.n (ms.map (·.2)) = true
  | _, _, .nil => rfl
  | _, _, .cons r t => by
    show (cloV W.n _ && cloL W.n _) = true
    rw [r.clo, RKV.clo t]
    rfl
theorem RKV.cutp {κ : Type} {n : Nat} : ∀ {ms : List (κ × MV)} {vs : List (κ × V)}, cloL n (ms.map (·.2)) = true → RKV K W ms vs → RKV K (W.cut n) ms vs
  | _, _, _, .nil => .nil
  | _, _, q, .cons r t => by
    have q' : (cloV n _ && cloL n _) = true := q
    rw [Bool.and_eq_true] at q'
    exact .cons (RV.cutp q'.1 r) (RKV.cutp q'.2 t)
theorem RO.clo {o : MO} {a : Addr} (r : RO K W o a) : cloO W.n o = true := by
  cases o with
  | dead => exact r.elim
  | lst xs =>
    obtain ⟨vs, q, t⟩ := r
    exact t.clo
  | dK kvs =>
    obtain ⟨vs, q, t⟩ := r
    exact t.clo
theorem RO.cut {n : Nat} {o : MO} {a : Addr} (c : cloO n o = true) (r : RO K W o a) : RO K (W.cut n) o a := by
  cases o with
  | dead => exact r.elim
  | lst xs =>
    obtain ⟨vs, q, t⟩ := r
    exact ⟨vs, q, t.cutp c⟩
  | dK kvs =>
    obtain ⟨vs, q, t⟩ := r
    exact ⟨vs, q, t.cutp c⟩
theorem cut_clo {h h' : MH} (S0 : Sim K W0 h) (S : Sim K W h') (c : CutOk h h') {l : Nat} {o : MO} (hl : l < h.length) (e : h'[l]? = some o) : cloO h.length o = true := by
  rcases c.2 l hl with q | ⟨u, q, z⟩
  · rw [e] at q
    cases o with
    | dead => rfl
    | lst xs =>
      obtain ⟨a0, e0⟩ := S0.live l _ q.symm (by intro z; cases z)
      obtain ⟨u, e1, r⟩ := S0.obj l a0 e0
      rw [← q] at e1
      cases e1
      rw [← S0.n]
      exact r.clo
    | dK xs =>
      obtain ⟨a0, e0⟩ := S0.live l _ q.symm (by intro z; cases z)
      obtain ⟨u, e1, r⟩ := S0.obj l a0 e0
      rw [← q] at e1
      cases e1
      rw [← S0.n]
      exact r.clo
  · rw [e] at q
    cases q
    exact z
theorem Sim.cut {h h' : MH} (S0 : Sim K W0 h) (S : Sim K W h') (c : CutOk h h') : Sim K (W.cut h.length) (h'.take h.length) where
  n := by
    rw [List.length_take, Nat.min_eq_left c.1]
    rfl
  lt := fun l a e => by
    rw [List.length_take, Nat.min_eq_left c.1]
    exact (Wd.cut_some e).1
  inj := fun i j a ei ej => S.inj i j a (Wd.cut_some ei).2 (Wd.cut_some ej).2
  obj := fun l a e => by
    obtain ⟨hl, e1⟩ := Wd.cut_some e
    obtain ⟨o, e2, r⟩ := S.obj l a e1
    exact ⟨o, by rw [List.getElem?_take_of_lt hl]; exact e2, r.cut (cut_clo S0 S c hl e2)⟩
  live := fun l o e d => by
    have hl : l < h.length := by
      have := (List.getElem?_eq_some_iff.mp e).1
      rw [List.length_take] at this
      omega
    rw [List.getElem?_take_of_lt hl] at e
    obtain ⟨a, ea⟩ := S.live l o e d
    exact ⟨a, (if_pos hl).trans ea⟩
  nhid := fun l a e => S.nhid l a (Wd.cut_some e).2
  hids := S.hids
theorem Ext.cut {n : Nat} (x : Ext W0 W) (hn : W0.n = n) : Ext W0 (W.cut n) where
  le := by
    rw [hn]
    exact Nat.le_refl _
  agree := fun l hl => by
    rw [show (W.cut n).f l = W.f l from if_pos (hn ▸ hl)]
    exact x.agree l hl
  frame := fun p o s e => ⟨(x.frame p o s e).1, (x.frame p o s e).2.cut⟩
  hidf := fun p o s e => x.hidf p o s e
theorem cut_pst {c : XC} {Q : VK} {f : MF} {xs : List MV} {h : MH} (S0 : Sim K W0 h) (p : Pst K c (CV K Q) W0 (cutF f xs h)) : Pst K c (CV K Q) W0 (f xs h) := by
  unfold cutF at p
  cases hf : f xs h with
  | none =>
    rw [hf] at p
    exact p.elim
  | some r =>
    rw [hf] at p
    cases r with
    | ex e h' => exact p
    | ok v h' =>
      dsimp only at p
      by_cases q : cloV h.length v = true ∧ CutOk h h'
      · rw [if_pos q] at p
        exact fun W1 x1 S1 u r1 => p (W1.cut h.length) (x1.cut S0.n) (S0.cut S1 q.2) u (r1.cutp q.1)
      · rw [if_neg q] at p
        exact p
theorem cut_sp {mg : Str → Option Value} {np : Nat} {f : MF} : ∀ vs H Q E, spM K mg np (cutF f) vs H Q E → spM K mg np f vs H Q E := fun vs H Q E ⟨W, h, xs, e, S, r, hl, p⟩ => ⟨W, h, xs, e, S, r, hl, cut_pst S p⟩
theorem cut_len {np : Nat} {f : MF} (hf : ∀ (xs : List MV) (h : MH), (f xs h).isSome = true → xs.length = np) : ∀ (xs : List MV) (h : MH), (cutF f xs h).isSome = true → xs.length = np := fun xs h e => by
  refine hf xs h ?_
  unfold cutF at e
  cases q : f xs h with
  | none =>
    rw [q] at e
    cases e
  | some r => rfl
theorem RS.clr1 : ∀ {a : MS} {b : St} (i : Nat), RS K W a b → RS K W (a.set i none) b
  | _, _, _, .nil => .nil
  | _, _, 0, .no t => .no t
  | _, _, 0, .yes _ t => .no t
  | _, _, i + 1, .no t => .no (RS.clr1 i t)
  | _, _, i + 1, .yes q t => .yes q (RS.clr1 i t)
theorem RS.wip {a : MS} {b : St} (t : RS K W a b) : ∀ vs : List Nat, RS K W (wipeM a vs) b
  | [] => t
  | v :: vs => (RS.wip t vs).clr1 v
theorem RS.cut {n : Nat} : ∀ {a : MS} {b : St}, cloS n a = true → RS K W a b → RS K (W.cut n) a b
  | _, _, _, .nil => .nil
  | _, _, q, .no t => .no (RS.cut q t)
  | _, _, q, .yes r t => by
    have q' : (cloV n _ && cloS n _) = true := q
    rw [Bool.and_eq_true] at q'
    exact .yes (r.cutp q'.1) (RS.cut q'.2 t)
end
@[simp] theorem wipe_nil {s : MS} : wipeM s [] = s := rfl
@[simp] theorem wipe_cons {s : MS} {v : Nat} {vs : List Nat} : wipeM s (v :: vs) = (wipeM s vs).set v none := rfl
/-- slots wiped ahead of a statement, behind a body -/
@[simp ↓] def preW (vs : List Nat) (m : MT) : MT := fun s h => m (wipeM s vs) h
@[simp ↓] def wipT (vs : List Nat) (m : MT) : MT := fun s h => match m s h with
  | some (.nx s1 h1) => some (.nx (wipeM s1 vs) h1)
  | some (.brk s1 h1) => some (.brk (wipeM s1 vs) h1)
  | some (.cnt s1 h1) => some (.cnt (wipeM s1 vs) h1)
  | r => r
open Classical in
noncomputable def cutT (m : MT) : MT := fun s h => match m s h with
  | some (.nx s1 h1) => if cloS h.length s1 = true ∧ CutOk h h1 then some (.nx s1 (h1.take h.length)) else some (.nx s1 h1)
  | some (.brk s1 h1) => if cloS h.length s1 = true ∧ CutOk h h1 then some (.brk s1 (h1.take h.length)) else some (.brk s1 h1)
  | some (.cnt s1 h1) => if cloS h.length s1 = true ∧ CutOk h h1 then some (.cnt s1 (h1.take h.length)) else some (.cnt s1 h1)
  | r => r
section
variable {X : Cx} {c : XC} {st : Stmt} {sts : List Stmt} {m : MT}
theorem s_pre {vs : List Nat} (h : SM X c st m) : SM X c st (preW vs m) := ps_wk h fun D σ H ⟨W, h, s, e, S, rs, p⟩ => ⟨W, h, wipeM s vs, e, S, rs.wip vs, p⟩
theorem ss_wip {vs : List Nat} (h : SsM X c sts m) : SsM X c sts (wipT vs m) := pss_wk h fun D σ H ⟨W, h, s, e, S, rs, p⟩ => by
  refine ⟨W, h, s, e, S, rs, ?_⟩
  unfold wipT at p
  cases q : m s h with
  | none =>
    rw [q] at p
    exact p.elim
  | some r =>
    rw [q] at p
    cases r with
    | nx s1 h1 => exact fun W1 σ1 x1 S1 rs1 => p W1 σ1 x1 S1 (rs1.wip vs)
    | brk s1 h1 => exact fun W1 σ1 x1 S1 rs1 => p W1 σ1 x1 S1 (rs1.wip vs)
    | cnt s1 h1 => exact fun W1 σ1 x1 S1 rs1 => p W1 σ1 x1 S1 (rs1.wip vs)
    | ret x h1 => exact p
    | ex x h1 => exact p
theorem ss_cut (h : SsM X c sts m) : SsM X c sts (cutT m) := pss_wk h fun D σ H ⟨W, h, s, e, S, rs, p⟩ => by
  refine ⟨W, h, s, e, S, rs, ?_⟩
  unfold cutT at p
  cases q : m s h with
  | none =>
    rw [q] at p
    exact p.elim
  | some r =>
    rw [q] at p
    cases r with
    | nx s1 h1 =>
      dsimp only at p
      by_cases z : cloS h.length s1 = true ∧ CutOk h h1
      · rw [if_pos z] at p
        exact fun W1 σ1 x1 S1 rs1 => p (W1.cut h.length) σ1 (x1.cut S.n) (S.cut S1 z.2) (rs1.cut z.1)
      · rw [if_neg z] at p
        exact p
    | brk s1 h1 =>
      dsimp only at p
      by_cases z : cloS h.length s1 = true ∧ CutOk h h1
      · rw [if_pos z] at p
        exact fun W1 σ1 x1 S1 rs1 => p (W1.cut h.length) σ1 (x1.cut S.n) (S.cut S1 z.2) (rs1.cut z.1)
      · rw [if_neg z] at p
        exact p
    | cnt s1 h1 =>
      dsimp only at p
      by_cases z : cloS h.length s1 = true ∧ CutOk h h1
      · rw [if_pos z] at p
        exact fun W1 σ1 x1 S1 rs1 => p (W1.cut h.length) σ1 (x1.cut S.n) (S.cut S1 z.2) (rs1.cut z.1)
      · rw [if_neg z] at p
        exact p
    | ret x h1 => exact p
    | ex x h1 => exact p
end
end Mi
set_option maxHeartbeats 2000000
/-! Mi: how to reckon when places are forgotten and slots wiped. -/
namespace Mi
open PySem L2
abbrev nV (k : Nat) : MV := .int (k : Int)
abbrev prV (p : Nat × Nat) : MV := .tup [nV p.1, nV p.2]
theorem atI_n {α : Type} {xs : List α} {i : Nat} : atI xs (i : Int) = xs[i]? := by
  unfold atI
  by_cases h : i < xs.length
  · rw [ixN_nat h]
    rfl
  · have e : ixN xs.length (i : Int) = none := by
      unfold ixN
      rw [if_pos (by omega), if_neg (by omega)]
    rw [e, List.getElem?_eq_none (by omega)]
    rfl
theorem atI_0 {α : Type} {xs : List α} : atI xs 0 = xs[0]? := atI_n (i := 0)
theorem atI_1 {α : Type} {xs : List α} : atI xs 1 = xs[1]? := atI_n (i := 1)
theorem atI_2 {α : Type} {xs : List α} : atI xs 2 = xs[2]? := atI_n (i := 2)
theorem atI_3 {α : Type} {xs : List α} : atI xs 3 = xs[3]? := atI_n (i := 3)
theorem atI_4 {α : Type} {xs : List α} : atI xs 4 = xs[4]? := atI_n (i := 4)
theorem atI_5 {α : Type} {xs : List α} : atI xs 5 = xs[5]? := atI_n (i := 5)
theorem atI_6 {α : Type} {xs : List α} : atI xs 6 = xs[6]? := atI_n (i := 6)
theorem atI_7 {α : Type} {xs : List α} : atI xs 7 = xs[7]? := atI_n (i := 7)
theorem atI_m1 {α : Type} {xs : List α} : atI xs (-1) = xs[xs.length - 1]? := by
  unfold atI ixN
  cases xs with
  | nil => rfl
  | cons x xs =>
    have h : -((x :: xs).length : Int) ≤ -1 := by
      rw [List.length_cons]
      omega
    rw [if_neg (by omega), if_pos h]
    show (x :: xs)[((-1 : Int) + ((x :: xs).length : Int)).toNat]? = _
    congr 1
    omega
theorem ixN_n {n j : Nat} : ixN n (j : Int) = if j < n then some j else none := by
  by_cases h : j < n
  · rw [ixN_nat h, if_pos h]
  · unfold ixN
    rw [if_pos (by omega), if_neg (by omega), if_neg h]
theorem ixN_0 {n : Nat} : ixN n 0 = if 0 < n then some 0 else none := ixN_n (j := 0)
theorem ixN_1 {n : Nat} : ixN n 1 = if 1 < n then some 1 else none := ixN_n (j := 1)
theorem ixN_2 {n : Nat} : ixN n 2 = if 2 < n then some 2 else none := ixN_n (j := 2)
theorem ixN_3 {n : Nat} : ixN n 3 = if 3 < n then some 3 else none := ixN_n (j := 3)
theorem ixN_4 {n : Nat} : ixN n 4 = if 4 < n then some 4 else none := ixN_n (j := 4)
theorem ixN_5 {n : Nat} : ixN n 5 = if 5 < n then some 5 else none := ixN_n (j := 5)
/-! places in heaps put together -/
theorem ga {α : Type} {a t : List α} {n i : Nat} (h : a.length = n) : (a ++ t)[n + i]? = t[i]? := by
  subst h
  rw [List.getElem?_append_right (by omega)]
  congr 1
  omega
theorem ga0 {α : Type} {a t : List α} {n : Nat} (h : a.length = n) : (a ++ t)[n]? = t[0]? := ga (i := 0) h
theorem sa {α : Type} {a t : List α} {n i : Nat} {x : α} (h : a.length = n) : (a ++ t).set (n + i) x = a ++ t.set i x := by
  subst h
  rw [List.set_append_right _ _ (by omega)]
  congr 2
  omega
theorem sa0 {α : Type} {a t : List α} {n : Nat} {x : α} (h : a.length = n) : (a ++ t).set n x = a ++ t.set 0 x := sa (i := 0) h
theorem gl {α : Type} {a t : List α} {i : Nat} (h : i < a.length) : (a ++ t)[i]? = a[i]? := List.getElem?_append_left h
theorem sl {α : Type} {a t : List α} {i : Nat} {x : α} (h : i < a.length) : (a ++ t).set i x = a.set i x ++ t := List.set_append_left _ _ h
/-! loops -/
theorem for_m {α β : Type} {bd : MV → MT} {f : β → MV} (S : α → MS) (H : α → MH) (I : Nat → α → Prop) {xs : List β} {a0 : α} (h0 : I 0 a0)
    (hs : ∀ i x a, xs[i]? = some x → I i a → ∃ a', (bd (f x) (S a) (H a) = some (.nx (S a') (H a')) ∨ bd (f x) (S a) (H a) = some (.cnt (S a') (H a'))) ∧ I (i + 1) a') :
    ∃ a, forS bd (xs.map f) (S a0) (H a0) = some (.nx (S a) (H a)) ∧ I xs.length a := by
  obtain ⟨s', h', e, a, e1, e2, q⟩ := forS_ok (bd := bd) (fun i s h => ∃ a, s = S a ∧ h = H a ∧ I i a) (xs := xs.map f) (i0 := 0) (s := S a0) (h := H a0) (fun i x s h hx ⟨a, e1, e2, q⟩ => by
    subst e1
    subst e2
    rw [List.getElem?_map] at hx
    cases hy : xs[i]? with
    | none =>
      rw [hy] at hx
      cases hx
    | some y =>
      rw [hy] at hx
      cases hx
      rw [Nat.zero_add] at q ⊢
      obtain ⟨a', e, q'⟩ := hs i y a hy q
      exact ⟨_, _, e, a', rfl, rfl, q'⟩) ⟨a0, rfl, rfl, h0⟩
  subst e1
  subst e2
  rw [Nat.zero_add, List.length_map] at q
  exact ⟨a, e, q⟩
/-- .. or returns -/
theorem for_mr {α β : Type} {bd : MV → MT} {f : β → MV} (S : α → MS) (H : α → MH) (I : Nat → α → Prop) (R : MV → α → Prop) : ∀ {xs : List β} {i0 : Nat} {a0 : α}, I i0 a0 →
    (∀ i x a, xs[i]? = some x → I (i0 + i) a → (∃ a', (bd (f x) (S a) (H a) = some (.nx (S a') (H a')) ∨ bd (f x) (S a) (H a) = some (.cnt (S a') (H a'))) ∧ I (i0 + i + 1) a') ∨ ∃ v a', bd (f x) (S a) (H a) = some (.ret v (H a')) ∧ R v a') →
    (∃ a, forS bd (xs.map f) (S a0) (H a0) = some (.nx (S a) (H a)) ∧ I (i0 + xs.length) a) ∨ ∃ v a, forS bd (xs.map f) (S a0) (H a0) = some (.ret v (H a)) ∧ R v a
  | [], i0, a0, h0, _ => .inl ⟨a0, rfl, h0⟩
  | x :: xs, i0, a0, h0, hs => by
    rcases hs 0 x a0 rfl h0 with ⟨a1, e, q⟩ | ⟨v, a1, e, q⟩
    · have ih := for_mr S H I R (bd := bd) (f := f) (xs := xs) (i0 := i0 + 1) (a0 := a1) q fun i y a hy hj => by
        have := hs (i + 1) y a (by simpa using hy) (by rw [← Nat.add_assoc, Nat.add_right_comm]; exact hj)
        rw [show i0 + 1 + i = i0 + (i + 1) by omega]
        exact this
      rw [List.map_cons, List.length_cons, show i0 + (xs.length + 1) = i0 + 1 + xs.length by omega]
      unfold forS
      rcases e with e | e <;> rw [e] <;> exact ih
    · refine .inr ⟨v, a1, ?_, q⟩
      rw [List.map_cons]
      unfold forS
      rw [e]
theorem for_n {α : Type} {bd : MV → MT} (S : α → MS) (H : α → MH) (I : Nat → α → Prop) {n : Nat} {a0 : α} (h0 : I 0 a0)
    (hs : ∀ i a, i < n → I i a → ∃ a', (bd (nV i) (S a) (H a) = some (.nx (S a') (H a')) ∨ bd (nV i) (S a) (H a) = some (.cnt (S a') (H a'))) ∧ I (i + 1) a') :
    ∃ a, forS bd (runOf 0 n) (S a0) (H a0) = some (.nx (S a) (H a)) ∧ I n a := by
  have := for_m (bd := bd) (f := nV) S H I (xs := List.range n) (a0 := a0) h0 fun i x a hx q => by
    obtain ⟨hi, e⟩ := List.getElem?_eq_some_iff.mp hx
    rw [List.getElem_range] at e
    subst e
    exact hs i a (by simpa using hi) q
  rw [List.length_range] at this
  rw [run_nat]
  exact this
/-- a loop that ends at the first item of a kind, and changes nothing else -/
theorem for_find {β : Type} {bd : MV → MT} {f : β → MV} {s : MS} {h : MH} (c : β → Bool) (r : β → MV) : ∀ {xs : List β}, (∀ x ∈ xs, bd (f x) s h = if c x = true then some (.ret (r x) h) else some (.nx s h)) →
    forS bd (xs.map f) s h = match xs.find? c with
      | some x => some (.ret (r x) h)
      | none => some (.nx s h)
  | [], _ => rfl
  | x :: xs, hs => by
    rw [List.map_cons]
    unfold forS
    rw [hs x (List.mem_cons_self ..), List.find?_cons]
    cases hc : c x with
    | true => rfl
    | false =>
      rw [if_neg Bool.false_ne_true]
      exact for_find c r fun y hy => hs y (List.mem_cons_of_mem _ hy)
/-- all must do -/
theorem for_all {β : Type} {bd : MV → MT} {f : β → MV} {s : MS} {h : MH} (c : β → Bool) (r : MV) {xs : List β} (hs : ∀ x ∈ xs, bd (f x) s h = if c x = true then some (.nx s h) else some (.ret r h)) :
    forS bd (xs.map f) s h = if xs.all c = true then some (.nx s h) else some (.ret r h) := by
  rw [for_find (fun x => !c x) (fun _ => r) (xs := xs) fun x hx => by
    rw [hs x hx]
    cases c x <;> rfl]
  cases hf : xs.find? fun x => !c x with
  | none =>
    have : xs.all c = true := List.all_eq_true.mpr fun x hx => by
      have := List.find?_eq_none.mp hf x hx
      simpa using this
    rw [this]
    rfl
  | some y =>
    have : xs.all c = false := List.all_eq_false.mpr ⟨y, List.mem_of_find?_eq_some hf, by
      have := List.find?_some hf
      simpa using this⟩
    rw [this]
    rfl
/-- each turn does a step -/
theorem for_fold {α β : Type} {bd : MV → MT} {f : β → MV} (S : α → MS) (H : α → MH) (st : α → β → α) (J : Nat → α → Prop) : ∀ {xs : List β} {i0 : Nat} {a0 : α}, J i0 a0 →
    (∀ i x a, xs[i]? = some x → J (i0 + i) a → bd (f x) (S a) (H a) = some (.nx (S (st a x)) (H (st a x))) ∧ J (i0 + i + 1) (st a x)) →
    forS bd (xs.map f) (S a0) (H a0) = some (.nx (S (xs.foldl st a0)) (H (xs.foldl st a0))) ∧ J (i0 + xs.length) (xs.foldl st a0)
  | [], i0, a0, h0, _ => ⟨rfl, h0⟩
  | x :: xs, i0, a0, h0, hs => by
    obtain ⟨e, q⟩ := hs 0 x a0 rfl h0
    have ih := for_fold S H st J (bd := bd) (f := f) (xs := xs) (i0 := i0 + 1) (a0 := st a0 x) q fun i y a hy hj => by
      have := hs (i + 1) y a (by simpa using hy) (by rw [← Nat.add_assoc, Nat.add_right_comm]; exact hj)
      rw [show i0 + 1 + i = i0 + (i + 1) by omega]
      exact this
    rw [List.map_cons, List.foldl_cons, List.length_cons, show i0 + (xs.length + 1) = i0 + 1 + xs.length by omega]
    refine ⟨?_, ih.2⟩
    unfold forS
    rw [e]
    exact ih.1
theorem run_m {n : Nat} : runOf 0 n = (List.range n).map nV := run_nat
theorem rng1_n {n : Nat} {h : MH} (q : n ≤ 1000000) : rng1F [nV n] h = ok (.st ((List.range n).map nV)) h := by
  unfold rng1F
  dsimp only
  rw [if_pos (by omega), Int.toNat_natCast, run_m]
/-! comprehensions -/
theorem lc_p {β : Type} {i : Nat} {f : β → MV} {cd : MM Bool} {el : ME} {s0 : MS} {h : MH} (c : β → Bool) (e : β → MV) {xs : List β} (hl : xs.length ≤ lim) (hs : ∀ x ∈ xs, cd (s0.set i (some (f x))) h = ok (c x) h ∧ (c x = true → el (s0.set i (some (f x))) h = ok (e x) h)) :
    lcS (one i) cd el s0 (xs.map f) [] h = ok ((xs.filter c).map e) h := by
  have : ∀ (xs : List β) (acc : List MV), (∀ x ∈ xs, cd (s0.set i (some (f x))) h = ok (c x) h ∧ (c x = true → el (s0.set i (some (f x))) h = ok (e x) h)) → acc.length + xs.length ≤ lim → lcS (one i) cd el s0 (xs.map f) acc h = ok (acc ++ (xs.filter c).map e) h := by
    intro xs
    induction xs with
    | nil =>
      intro acc _ _
      show _ = ok (acc ++ []) h
      rw [List.append_nil]
      rfl
    | cons x xs ih =>
      intro acc hs hl
      obtain ⟨e1, e2⟩ := hs x (List.mem_cons_self ..)
      rw [List.length_cons] at hl
      rw [List.map_cons]
      unfold lcS
      show (cd (s0.set i (some (f x))) h).bnd _ = _
      rw [e1, bnd_ok]
      cases hc : c x with
      | false =>
        rw [if_neg Bool.false_ne_true, ih acc (fun y hy => hs y (List.mem_cons_of_mem _ hy)) (by omega), List.filter_cons_of_neg (by rw [hc]; exact Bool.false_ne_true)]
      | true =>
        rw [if_pos rfl, e2 hc, bnd_ok, if_pos (by omega), ih (acc ++ [e x]) (fun y hy => hs y (List.mem_cons_of_mem _ hy)) (by rw [List.length_append]; show acc.length + 1 + xs.length ≤ lim; omega), List.filter_cons_of_pos hc, List.map_cons, List.append_assoc]
        rfl
  have t := this xs [] hs (by simpa using hl)
  rw [List.nil_append] at t
  exact t
theorem lc_y {β : Type} {i : Nat} {f : β → MV} {el : ME} {s0 : MS} {h : MH} (e : β → MV) {xs : List β} (hl : xs.length ≤ lim) (hs : ∀ x ∈ xs, el (s0.set i (some (f x))) h = ok (e x) h) :
    lcS (one i) yesT el s0 (xs.map f) [] h = ok (xs.map e) h := by
  have := lc_p (i := i) (f := f) (cd := yesT) (el := el) (s0 := s0) (h := h) (fun _ => true) e hl fun x hx => ⟨rfl, fun _ => hs x hx⟩
  rw [List.filter_eq_self.mpr fun _ _ => rfl] at this
  exact this
/-- one whose parts change the heap -/
theorem lc_m {α β : Type} {f : β → MV} {g : MV → MS → Option MS} {cd : MM Bool} {el : ME} {s0 : MS} (H : α → MH) (I : Nat → List MV → α → Prop) {xs : List β} {a0 : α} (h0 : I 0 [] a0) (hs : ∀ i x acc a, xs[i]? = some x → I i acc a → ∃ s1, g (f x) s0 = some s1 ∧ ∃ b a1, cd s1 (H a) = ok b (H a1) ∧
      (b = true → ∃ y a2, el s1 (H a1) = ok y (H a2) ∧ acc.length < lim ∧ I (i + 1) (acc ++ [y]) a2) ∧ (b = false → I (i + 1) acc a1)) : ∃ acc a, lcS g cd el s0 (xs.map f) [] (H a0) = ok acc (H a) ∧ I xs.length acc a := by
  obtain ⟨acc, h', e, a, e1, q⟩ := lcS_ok (g := g) (cd := cd) (el := el) (s0 := s0) (fun i acc h => ∃ a, h = H a ∧ I i acc a) (xs := xs.map f) (i0 := 0) (acc := []) (h := H a0) (fun i x acc h hx ⟨a, e1, q⟩ => by
    subst e1
    rw [List.getElem?_map] at hx
    cases hy : xs[i]? with
    | none =>
      rw [hy] at hx
      cases hx
    | some y =>
      rw [hy] at hx
      cases hx
      rw [Nat.zero_add] at q ⊢
      obtain ⟨s1, z, b, a1, z1, z2, z3⟩ := hs i y acc a hy q
      refine ⟨s1, z, b, H a1, z1, fun w => ?_, fun w => ⟨a1, rfl, z3 w⟩⟩
      obtain ⟨y, a2, w1, w2, w3⟩ := z2 w
      exact ⟨y, H a2, w1, w2, a2, rfl, w3⟩) ⟨a0, rfl, h0⟩
  subst e1
  rw [Nat.zero_add, List.length_map] at q
  exact ⟨acc, a, e, q⟩
/-! places forgotten -/
mutual
theorem cloV_le {n m : Nat} (h : n ≤ m) : ∀ {x : MV}, cloV n x = true → cloV m x = true
  | .non, _ => rfl
  | .bl _, _ => rfl
  | .int _, _ => rfl
  | .str _, _ => rfl
  | .ref l, e => decide_eq_true (Nat.lt_of_lt_of_le (of_decide_eq_true e) h)
  | .tup xs, e => cloL_le h (xs := xs) e
  | .ktp xs, e => cloL_le h (xs := xs) e
  | .fls xs, e => cloL_le h (xs := xs) e
  | .frz xs, e => cloL_le h (xs := xs) e
  | .exc _ _ _ xs, e => cloL_le h (xs := xs) e
theorem cloL_le {n m : Nat} (h : n ≤ m) : ∀ {xs : List MV}, cloL n xs = true → cloL m xs = true
  | [], _ => rfl
  | x :: xs, e => by
    have e' : (cloV n x && cloL n xs) = true := e
    rw [Bool.and_eq_true] at e'
    show (cloV m x && cloL m xs) = true
    rw [cloV_le h e'.1, cloL_le h e'.2]
    rfl
end
theorem cloO_le {n m : Nat} (h : n ≤ m) : ∀ {o : MO}, cloO n o = true → cloO m o = true
  | .dead, _ => rfl
  | .lst xs, e => cloL_le h (xs := xs) e
  | .dK kvs, e => by
    have e' : cloL n (kvs.map (·.2)) = true := e
    exact cloL_le h e'
theorem cloL_iff {n : Nat} : ∀ {xs : List MV}, cloL n xs = true ↔ ∀ x ∈ xs, cloV n x = true
  | [] => ⟨fun _ _ h => (nomatch h), fun _ => rfl⟩
  | x :: xs => by
    show (cloV n x && cloL n xs) = true ↔ _
    rw [Bool.and_eq_true, cloL_iff (xs := xs)]
    simp
theorem cloL_map {β : Type} {n : Nat} {f : β → MV} {xs : List β} (h : ∀ x, cloV n (f x) = true) : cloL n (xs.map f) = true := cloL_iff.mpr fun y hy => by
  obtain ⟨x, _, e⟩ := List.mem_map.mp hy
  rw [← e]
  exact h x
@[simp] theorem clo_int {n : Nat} {i : Int} : cloV n (.int i) = true := rfl
@[simp] theorem clo_bl {n : Nat} {i : Bool} : cloV n (.bl i) = true := rfl
@[simp] theorem clo_str {n : Nat} {i : Str} : cloV n (.str i) = true := rfl
@[simp] theorem clo_non {n : Nat} : cloV n .non = true := rfl
@[simp] theorem clo_tup {n : Nat} {xs : List MV} : cloV n (.tup xs) = cloL n xs := rfl
@[simp] theorem clo_fls {n : Nat} {xs : List MV} : cloV n (.fls xs) = cloL n xs := rfl
@[simp] theorem clo_frz {n : Nat} {xs : List MV} : cloV n (.frz xs) = cloL n xs := rfl
@[simp] theorem clo_nil {n : Nat} : cloL n [] = true := rfl
@[simp] theorem clo_cons {n : Nat} {x : MV} {xs : List MV} : cloL n (x :: xs) = (cloV n x && cloL n xs) := rfl
@[simp] theorem clo_ints {n : Nat} {xs : List Int} : cloL n (xs.map MV.int) = true := cloL_map fun _ => rfl
@[simp] theorem clo_ns {n : Nat} {xs : List Nat} : cloL n (xs.map nV) = true := cloL_map fun _ => rfl
@[simp] theorem clo_prs {n : Nat} {xs : List (Nat × Nat)} : cloL n (xs.map prV) = true := cloL_map fun _ => rfl
@[simp] theorem clo_tb {n k : Nat} {f : Nat → Bool} : cloL n (tb k fun y => MV.bl (f y)) = true := cloL_map fun _ => rfl
@[simp] theorem clo_mat {n a b : Nat} {f : Nat → Nat → Bool} : cloV n (matV a b f) = true := cloL_map fun x => cloL_map fun _ => rfl
theorem cut_eq {f : MF} {xs : List MV} {v : MV} {h h' h2 : MH} (e : f xs h = ok v h') (hv : cloV 0 v = true) (hk : CutOk h h') (ht : h'.take h.length = h2) : cutF f xs h = ok v h2 := by
  unfold cutF
  rw [e]
  dsimp only
  rw [if_pos ⟨cloV_le (Nat.zero_le _) hv, hk⟩, ht]
theorem cut_keep {f : MF} {xs : List MV} {v : MV} {h h' : MH} (e : f xs h = ok v h') (k : Keep (fun _ => False) h h') (hv : cloV 0 v = true) : cutF f xs h = ok v h := by
  refine cut_eq e hv ⟨k.le, fun i hi => .inl (k.at_ i hi fun z => z)⟩ ?_
  refine List.ext_getElem? fun i => ?_
  by_cases hi : i < h.length
  · rw [List.getElem?_take_of_lt hi, k.at_ i hi fun z => z]
  · rw [List.getElem?_eq_none (by rw [List.length_take]; omega), List.getElem?_eq_none (by omega)]
theorem cut_p {f : MF} {xs : List MV} {v : MV} {h os : MH} (e : f xs h = ok v (h ++ os)) (hv : cloV 0 v = true) : cutF f xs h = ok v h := cut_keep e (keeps os) hv
/-- the places of a source refer to themselves alone -/
def Self (S : MH) : Prop := ∀ o ∈ S, cloO S.length o = true
theorem seq_nx {a b : MT} {s s1 : MS} {h h1 : MH} (e : a s h = some (.nx s1 h1)) : seqS a b s h = b s1 h1 := by
  unfold seqS
  rw [e]
theorem defM_ret {np n : Nat} {m : MT} {xs : List MV} {h h1 : MH} {x : MV} (hl : xs.length = np) (e : m (xs.map some ++ List.replicate (n - np) none) h = some (.ret x h1)) : defM np n m xs h = ok x h1 := by
  unfold defM
  rw [if_pos hl, e]
theorem seq_ret {a b : MT} {s : MS} {h h1 : MH} {x : MV} (e : a s h = some (.ret x h1)) : seqS a b s h = some (.ret x h1) := by
  unfold seqS
  rw [e]
theorem seq_ex {a b : MT} {s : MS} {h h1 : MH} {x : MX} (e : a s h = some (.ex x h1)) : seqS a b s h = some (.ex x h1) := by
  unfold seqS
  rw [e]
theorem defM_ex {np n : Nat} {m : MT} {xs : List MV} {h h1 : MH} {x : MX} (hl : xs.length = np) (e : m (xs.map some ++ List.replicate (n - np) none) h = some (.ex x h1)) : defM np n m xs h = some (.ex x h1) := by
  unfold defM
  rw [if_pos hl, e]
theorem forS_nx {bd : MV → MT} {x : MV} {xs : List MV} {s s1 : MS} {h h1 : MH} (e : bd x s h = some (.nx s1 h1)) : forS bd (x :: xs) s h = forS bd xs s1 h1 := by
  rw [forS, e]
theorem forS_ex {bd : MV → MT} {x : MV} {xs : List MV} {s : MS} {h h1 : MH} {y : MX} (e : bd x s h = some (.ex y h1)) : forS bd (x :: xs) s h = some (.ex y h1) := by
  rw [forS, e]
theorem forS_ret {bd : MV → MT} {x : MV} {xs : List MV} {s : MS} {h h1 : MH} {y : MV} (e : bd x s h = some (.ret y h1)) : forS bd (x :: xs) s h = some (.ret y h1) := by
  rw [forS, e]
theorem bnd_ex {α β : Type} {e : MX} {h : MH} {k : α → MH → Res β} : Res.bnd (some (.ex e h)) k = some (.ex e h) := rfl
theorem bndS_ex {α : Type} {e : MX} {h : MH} {k : α → MH → Option OutS} : bndS (some (.ex e h)) k = some (.ex e h) := rfl
theorem consA_ok {a : ME} {r : MM (List MV)} {s : MS} {h h1 h2 : MH} {x : MV} {xs : List MV} (e1 : a s h = ok x h1) (e2 : r s h1 = ok xs h2) : consA a r s h = ok (x :: xs) h2 := by
  unfold consA
  rw [e1, bnd_ok, e2, bnd_ok]
theorem consA_ex {a : ME} {r : MM (List MV)} {s : MS} {h h1 : MH} {x : MX} (e1 : a s h = some (.ex x h1)) : consA a r s h = some (.ex x h1) := by
  unfold consA
  rw [e1, bnd_ex]
theorem consA_ex2 {a : ME} {r : MM (List MV)} {s : MS} {h h1 h2 : MH} {y : MV} {x : MX} (e1 : a s h = ok y h1) (e2 : r s h1 = some (.ex x h2)) : consA a r s h = some (.ex x h2) := by
  unfold consA
  rw [e1, bnd_ok, e2, bnd_ex]
theorem tupM_ok {r : MM (List MV)} {s : MS} {h h1 : MH} {xs : List MV} (e : r s h = ok xs h1) (hl : xs.length ≤ 1000) : tupM r s h = ok (.tup xs) h1 := by
  unfold tupM
  rw [e, bnd_ok, if_pos (Nat.le_trans hl (by unfold lim; omega))]
theorem tupM_ex {r : MM (List MV)} {s : MS} {h h1 : MH} {x : MX} (e : r s h = some (.ex x h1)) : tupM r s h = some (.ex x h1) := by
  unfold tupM
  rw [e, bnd_ex]
theorem retS_ok {a : ME} {s : MS} {h h1 : MH} {x : MV} (e : a s h = ok x h1) : retS a s h = some (.ret x h1) := by
  unfold retS
  rw [e, bndS_ok]
theorem retS_ex {a : ME} {s : MS} {h h1 : MH} {x : MX} (e : a s h = some (.ex x h1)) : retS a s h = some (.ex x h1) := by
  unfold retS
  rw [e, bndS_ex]
theorem setS_ok {i : Nat} {a : ME} {s : MS} {h h1 : MH} {x : MV} (e : a s h = ok x h1) : setS i a s h = some (.nx (s.set i (some x)) h1) := by
  unfold setS
  rw [e, bndS_ok]
theorem ifS_t {t : MM Bool} {a b : MT} {s : MS} {h h1 : MH} (e : t s h = ok true h1) : ifS t a b s h = a s h1 := by
  unfold ifS
  rw [e, bndS_ok, if_pos rfl]
theorem ifS_f {t : MM Bool} {a b : MT} {s : MS} {h h1 : MH} (e : t s h = ok false h1) : ifS t a b s h = b s h1 := by
  unfold ifS
  rw [e, bndS_ok, if_neg Bool.false_ne_true]
theorem callX_is {f : MF} {ds : List MV} {a : MM (List MV)} {s : MS} {h h1 : MH} {xs : List MV} (e : a s h = ok xs h1) : callX f ds a s h = f (xs ++ ds) h1 := by
  unfold callX
  rw [e, bnd_ok]
theorem callKX_is {f : MF} {n k : Nat} {is : List Nat} {ds : List MV} {a kw : MM (List MV)} {s : MS} {h h1 h2 : MH} {xs zs : List MV} (e : a s h = ok xs h1) (e2 : kw s h1 = ok zs h2) (hl : xs.length = n ∧ zs.length = k) : callKX f n k is ds a kw s h = f (pick is (xs ++ zs ++ ds)) h2 := by
  unfold callKX
  rw [e, bnd_ok, e2, bnd_ok, if_pos hl]
theorem callKX_0 {f : MF} {k : Nat} {is : List Nat} {ds : List MV} {kw : MM (List MV)} {s : MS} {h h2 : MH} {zs : List MV} (e2 : kw s h = ok zs h2) (hl : zs.length = k) : callKX f 0 k is ds nilA kw s h = f (pick is ([] ++ zs ++ ds)) h2 := callKX_is rfl e2 ⟨rfl, hl⟩
theorem callKM_0 {f : MF} {k : Nat} {is : List Nat} {ds : List MV} {kw : MM (List MV)} {s : MS} {h h2 : MH} {zs : List MV} (e2 : kw s h = ok zs h2) (hl : zs.length = k) : callKM f 0 k is ds nilA kw s h = noex (f (pick is ([] ++ zs ++ ds)) h2) := by
  unfold callKM nilA
  rw [bnd_ok, e2, bnd_ok, if_pos ⟨rfl, hl⟩]
theorem callM_ok {f : MF} {ds : List MV} {a : MM (List MV)} {s : MS} {h h1 h2 : MH} {xs : List MV} {y : MV} (e : a s h = ok xs h1) (e2 : f (xs ++ ds) h1 = ok y h2) : callM f ds a s h = ok y h2 := by
  unfold callM
  rw [e, bnd_ok, e2]
  rfl
theorem notcall_t {f : MF} {ds : List MV} {a : MM (List MV)} {s : MS} {h h1 h2 : MH} {xs : List MV} {b : Bool} (e : a s h = ok xs h1) (e2 : f (xs ++ ds) h1 = ok (.bl b) h2) : notT (truM (callM f ds a)) s h = ok (!b) h2 := by
  unfold notT truM
  rw [callM_ok e e2]
  rfl
theorem cutOk_s {S S' os ks : MH} (hl : S'.length = S.length) (hc : Self S') : CutOk (S ++ os) (S' ++ (os ++ ks)) := by
  refine ⟨by simp [hl], fun i hi => ?_⟩
  by_cases h : i < S.length
  · obtain ⟨o, ho⟩ : ∃ o, S'[i]? = some o := ⟨_, List.getElem?_eq_getElem (by omega)⟩
    refine .inr ⟨o, by rw [List.getElem?_append_left (by omega)]; exact ho, ?_⟩
    refine cloO_le (n := S'.length) ?_ (hc o (List.mem_of_getElem? ho))
    rw [hl, List.length_append]
    omega
  · refine .inl ?_
    rw [List.length_append] at hi
    have a1 : (S' ++ (os ++ ks))[i]? = os[i - S.length]? := by
      rw [List.getElem?_append_right (by omega), hl, List.getElem?_append_left (by omega)]
    have a2 : (S ++ os)[i]? = os[i - S.length]? := List.getElem?_append_right (by omega)
    rw [a1, a2]
theorem take_s {S S' os ks : MH} (hl : S'.length = S.length) : (S' ++ (os ++ ks)).take (S ++ os).length = S' ++ os := by
  rw [← List.append_assoc, List.length_append, ← hl, ← List.length_append, List.take_left]
theorem cut_s {f : MF} {xs : List MV} {v : MV} {S S' os ks : MH} (e : f xs (S ++ os) = ok v (S' ++ (os ++ ks))) (hl : S'.length = S.length) (hc : Self S') (hv : cloV 0 v = true) : cutF f xs (S ++ os) = ok v (S' ++ os) := cut_eq e hv (cutOk_s hl hc) (take_s hl)
theorem cutT_eq {m : MT} {s s1 : MS} {h h' h2 : MH} (e : m s h = some (.nx s1 h')) (hv : cloS h.length s1 = true) (hk : CutOk h h') (ht : h'.take h.length = h2) : cutT m s h = some (.nx s1 h2) := by
  unfold cutT
  rw [e]
  dsimp only
  rw [if_pos ⟨hv, hk⟩, ht]
theorem cutT_p {m : MT} {s s1 : MS} {h os : MH} (e : m s h = some (.nx s1 (h ++ os))) (hv : cloS h.length s1 = true) : cutT m s h = some (.nx s1 h) := by
  refine cutT_eq e hv ⟨(keeps (P := fun _ => False) os).le, fun i hi => .inl ((keeps (P := fun _ => False) os).at_ i hi fun z => z)⟩ ?_
  rw [List.take_left]
theorem cutT_s {m : MT} {s s1 : MS} {S S' os ks : MH} (e : m s (S ++ os) = some (.nx s1 (S' ++ (os ++ ks)))) (hl : S'.length = S.length) (hc : Self S') (hv : cloS (S ++ os).length s1 = true) : cutT m s (S ++ os) = some (.nx s1 (S' ++ os)) := cutT_eq e hv (cutOk_s hl hc) (take_s hl)
theorem cutT_ret {m : MT} {s : MS} {v : MV} {h h' : MH} (e : m s h = some (.ret v h')) : cutT m s h = some (.ret v h') := by
  unfold cutT
  rw [e]
/-! a list of lists in the heap -/
def refsM (b n : Nat) : List MV := tb n fun k => .ref (b + k)
def matH (b : Nat) (rows : List (List MV)) : MH := rows.map MO.lst ++ [MO.lst (refsM b rows.length)]
theorem matH_len {b : Nat} {rows : List (List MV)} : (matH b rows).length = rows.length + 1 := by simp [matH]
theorem mat_top {b n : Nat} {rows : List (List MV)} {ks : MH} (hn : rows.length = n) : (matH b rows ++ ks)[n]? = some (.lst (refsM b n)) := by
  subst hn
  simp [matH]
theorem mat_row {b i : Nat} {rows : List (List MV)} {ks : MH} {r : List MV} (h : rows[i]? = some r) : (matH b rows ++ ks)[i]? = some (.lst r) := by
  have hi := (List.getElem?_eq_some_iff.mp h).1
  unfold matH
  rw [List.append_assoc, List.getElem?_append_left (by simpa using hi), List.getElem?_map, h]
  rfl
theorem mat_set {b i : Nat} {rows : List (List MV)} {ks : MH} {r : List MV} (h : i < rows.length) : (matH b rows ++ ks).set i (.lst r) = matH b (rows.set i r) ++ ks := by
  unfold matH
  rw [List.append_assoc, List.set_append_left _ _ (by simpa using h), List.map_set, List.length_set, List.append_assoc]
theorem refs_get {b n i : Nat} (h : i < n) : (refsM b n)[i]? = some (.ref (b + i)) := tb_get h
theorem refs_len {b n : Nat} : (refsM b n).length = n := tb_len
/-- all rows of a comprehension of lists -/
theorem mat_new {β : Type} {i : Nat} {f : β → MV} {s0 : MS} {m : MM (List MV)} (row : β → List MV) {xs : List β} {h : MH} (hl : xs.length ≤ lim) (hs : ∀ x ∈ xs, ∀ h, m (s0.set i (some (f x))) h = ok (row x) h) :
    lcS (one i) yesT (refM m) s0 (xs.map f) [] h = ok (refsM h.length xs.length) (h ++ xs.map fun x => MO.lst (row x)) := by
  obtain ⟨acc, a, e, e1, e2⟩ := lc_m (g := one i) (cd := yesT) (el := refM m) (s0 := s0) (f := f) (xs := xs) (H := fun k : Nat => h ++ (xs.take k).map fun x => MO.lst (row x)) (fun k acc j => acc = refsM h.length k ∧ j = k) (a0 := 0) ⟨rfl, rfl⟩ fun k x acc j hx ⟨e1, e2⟩ => by
    subst e1
    subst e2
    have hk := (List.getElem?_eq_some_iff.mp hx).1
    refine ⟨_, rfl, true, j, rfl, fun _ => ⟨.ref (h.length + j), j + 1, ?_, ?_, ?_, rfl⟩, fun z => nomatch z⟩
    · show (m (s0.set i (some (f x))) _).bnd _ = _
      rw [hs x (List.mem_of_getElem? hx), bnd_ok, List.take_add_one, hx]
      simp
      omega
    · rw [refs_len]
      omega
    · unfold refsM
      rw [tb_succ]
  rw [e1, e2] at e
  rw [List.take_length] at e
  simpa using e
theorem frzL_refs {b n : Nat} : ∀ {rows : List (List MV)} {pre : MH} {ks : MH}, (∀ r ∈ rows, r.all flatT = true) → pre.length = b →
    frzL (n + 3) ((List.range rows.length).map fun k => MV.ref (b + k)) (pre ++ (rows.map MO.lst ++ ks)) = some (rows.map MV.fls, pre ++ (List.replicate rows.length MO.dead ++ ks))
  | [], pre, ks, _, _ => by
    unfold frzL
    rfl
  | r :: rows, pre, ks, hr, hb => by
    have ih := frzL_refs (b := b + 1) (n := n) (rows := rows) (pre := pre ++ [MO.dead]) (ks := ks) (fun r hm => hr r (List.mem_cons_of_mem _ hm)) (by simp [hb])
    have e0 : (List.range (r :: rows).length).map (fun k => MV.ref (b + k)) = MV.ref b :: (List.range rows.length).map fun k => MV.ref (b + 1 + k) := by
      rw [List.length_cons, List.range_succ_eq_map, List.map_cons, List.map_map]
      congr 1
      refine List.map_congr_left fun i _ => ?_
      show MV.ref (b + (i + 1)) = MV.ref (b + 1 + i)
      congr 1
      omega
    have e1 : (pre ++ ((r :: rows).map MO.lst ++ ks))[b]? = some (.lst r) := by
      rw [ga0 hb]
      rfl
    have e2 : frzV (n + 3) (.ref b) (pre ++ ((r :: rows).map MO.lst ++ ks)) = some (.fls r, pre ++ [MO.dead] ++ (rows.map MO.lst ++ ks)) := by
      rw [frz_lst (n + 1) e1 (hr r (List.mem_cons_self ..)), sa0 hb]
      simp
    rw [e0]
    unfold frzL
    rw [e2]
    dsimp only
    rw [ih]
    simp [List.replicate_succ]
theorem frz_mat {b n : Nat} {rows : List (List MV)} {pre ks : MH} (hr : ∀ r ∈ rows, r.all flatT = true) (hb : pre.length = b) (hn : rows.length = n) :
    frzV 4 (.ref (b + n)) (pre ++ (matH b rows ++ ks)) = some (.fls (rows.map MV.fls), pre ++ (List.replicate (n + 1) MO.dead ++ ks)) := by
  subst hn
  have e1 : (pre ++ (matH b rows ++ ks))[b + rows.length]? = some (.lst (refsM b rows.length)) := by
    rw [ga hb, mat_top rfl]
  unfold frzV
  dsimp only
  rw [e1]
  dsimp only
  have := frzL_refs (b := b) (n := 0) (rows := rows) (pre := pre) (ks := [MO.lst (refsM b rows.length)] ++ ks) hr hb
  have e2 : pre ++ (matH b rows ++ ks) = pre ++ (rows.map MO.lst ++ ([MO.lst (refsM b rows.length)] ++ ks)) := by simp [matH]
  rw [e2]
  unfold refsM tb at this ⊢
  rw [this]
  dsimp only
  rw [sa hb]
  have e3 : (List.replicate rows.length MO.dead ++ ([MO.lst ((List.range rows.length).map fun k => MV.ref (b + k))] ++ ks)).set rows.length MO.dead = List.replicate (rows.length + 1) MO.dead ++ ks := by
    rw [sa0 (by simp)]
    simp [List.replicate_succ']
  rw [e3]
end Mi
set_option maxHeartbeats 2000000
/-! Mi: bits; orders as values; relations. -/
namespace Mi
open PySem L2
theorem bitNot_not (a : Nat) : (Builtin.bitNot (Builtin.bitNot (a : Int))) = (a : Int) := by
  unfold Builtin.bitNot
  omega
theorem bitOr_nat (a b : Nat) : Builtin.bitOr (a : Int) (b : Int) = ((a ||| b : Nat) : Int) := by
  have na : ∀ a : Nat, ¬ (0 ≤ Builtin.bitNot (a : Int)) := fun a => by
    unfold Builtin.bitNot
    omega
  unfold Builtin.bitOr Builtin.bitAnd
  simp only [decide_eq_false (na a), decide_eq_false (na b), bitNot_not, Int.toNat_natCast]
theorem bitAnd_nat (a b : Nat) : Builtin.bitAnd (a : Int) (b : Int) = ((a &&& b : Nat) : Int) := by
  unfold Builtin.bitAnd
  simp only [decide_eq_true (Int.natCast_nonneg a), decide_eq_true (Int.natCast_nonneg b), Int.toNat_natCast]
theorem low_bit {p a : Nat} : (2 ^ (p + 1) * a + 2 ^ p) &&& (2 ^ (p + 1) * a + 2 ^ p - 1) = 2 ^ (p + 1) * a := by
  have h1 : 2 ^ p < 2 ^ (p + 1) := by rw [Nat.pow_succ]; have := Nat.two_pow_pos p; omega
  have h0 := Nat.two_pow_pos p
  have e : 2 ^ (p + 1) * a + 2 ^ p - 1 = 2 ^ (p + 1) * a + (2 ^ p - 1) := by omega
  rw [e]
  apply Nat.eq_of_testBit_eq
  intro j
  have e0 : 2 ^ (p + 1) * a = 2 ^ (p + 1) * a + 0 := rfl
  rw [Nat.testBit_and, Nat.testBit_two_pow_mul_add _ h1, Nat.testBit_two_pow_mul_add _ (by omega)]
  conv => rhs; rw [e0, Nat.testBit_two_pow_mul_add _ (Nat.two_pow_pos _)]
  by_cases c : j < p + 1
  · rw [if_pos c, if_pos c, if_pos c, Nat.testBit_two_pow, Nat.testBit_two_pow_sub_one, Nat.zero_testBit]
    by_cases d : p = j
    · simp [d]
    · simp [d]
  · rw [if_neg c, if_neg c, if_neg c, Bool.and_self]
theorem and_neg {m k : Nat} (h0 : 0 < m) (e : m &&& (m - 1) = k) : Builtin.bitAnd (m : Int) (-(m : Int)) = ((m - k : Nat) : Int) := by
  have hk : k ≤ m := by rw [← e]; exact Nat.and_le_left
  have a : decide (0 ≤ (m : Int)) = true := decide_eq_true (by omega)
  have b : decide (0 ≤ -(m : Int)) = false := decide_eq_false (by omega)
  have c : (Builtin.bitNot (-(m : Int))).toNat = m - 1 := by
    unfold Builtin.bitNot
    omega
  unfold Builtin.bitAnd
  simp only [a, b, c, Int.toNat_natCast, e]
  omega
theorem bits_pow {p : Nat} : Builtin.Int.intBits (((2 ^ p : Nat) : Int)) = p + 1 := by
  unfold Builtin.Int.intBits
  have h0 := Nat.two_pow_pos p
  have : ¬ (((2 ^ p : Nat) : Int) == 0) = true := by
    rw [beq_iff_eq]
    omega
  rw [if_neg this, Int.natAbs_natCast, Nat.log2_two_pow]
theorem shr_bit {m k : Nat} : ((m : Int) / 2 ^ k) = ((m >>> k : Nat) : Int) := by
  rw [Nat.shiftRight_eq_div_pow]
  simp
theorem bit1 {m k : Nat} : (m >>> k) &&& 1 = if m.testBit k then 1 else 0 := by
  unfold Nat.testBit
  rw [Nat.and_comm, Nat.one_and_eq_mod_two]
  rcases Nat.mod_two_eq_zero_or_one (m >>> k) with e | e <;> simp [e]
/-- m >> k & 1, as a test -/
theorem tst_bit {a b : ME} {s : MS} {h : MH} {m k : Nat} (ha : a s h = ok (.int (m : Int)) h) (hb : b s h = ok (.int (k : Int)) h) : (truM (opM andF (opM shrF a b) (cM (.int 1)))) s h = ok (m.testBit k) h := by
  have e : Builtin.bitAnd ((m >>> k : Nat) : Int) 1 = (((m >>> k) &&& 1 : Nat) : Int) := bitAnd_nat _ 1
  rw [bit1] at e
  have e0 : ((m : Int) / 2 ^ k) = ((m >>> k : Nat) : Int) := shr_bit
  obtain ⟨q, hq⟩ : ∃ q : Nat, m >>> k = q := ⟨_, rfl⟩
  rw [hq] at e e0
  cases c : m.testBit k with
  | true =>
    rw [c] at e
    have e' : Builtin.bitAnd (q : Int) 1 = 1 := e
    simp [ha, hb, e0, e']
  | false =>
    rw [c] at e
    have e' : Builtin.bitAnd (q : Int) 1 = 0 := e
    simp [ha, hb, e0, e']
/-- the mask of the numbers below n that are in g -/
def msk (n : Nat) (g : Nat → Bool) : Nat := match n with
  | 0 => 0
  | n + 1 => msk n g + if g n = true then 2 ^ n else 0
theorem msk_lt : ∀ (n : Nat) (g : Nat → Bool), msk n g < 2 ^ n
  | 0, _ => Nat.one_pos
  | n + 1, g => by
    have := msk_lt n g
    unfold msk
    rw [Nat.pow_succ]
    by_cases c : g n = true
    · rw [if_pos c]
      omega
    · rw [if_neg c]
      omega
theorem msk_bit : ∀ (n : Nat) (g : Nat → Bool) (j : Nat), (msk n g).testBit j = (decide (j < n) && g j)
  | 0, g, j => by
    rw [decide_eq_false (Nat.not_lt_zero _), Bool.false_and]
    exact Nat.zero_testBit _
  | n + 1, g, j => by
    have hl := msk_lt n g
    have ih := msk_bit n g j
    unfold msk
    by_cases c : g n = true
    · rw [if_pos c]
      have e : msk n g + 2 ^ n = 2 ^ n * 1 + msk n g := by omega
      rw [e, Nat.testBit_two_pow_mul_add _ hl]
      by_cases h : j < n
      · rw [if_pos h, ih, decide_eq_true h, decide_eq_true (show j < n + 1 by omega)]
      · rw [if_neg h]
        by_cases h2 : j = n
        · subst h2
          rw [Nat.sub_self, c, decide_eq_true (Nat.lt_succ_self _)]
          rfl
        · rw [decide_eq_false (by omega), Bool.false_and, Bool.eq_false_iff]
          exact fun z => absurd (Nat.testBit_one_eq_true_iff_self_eq_zero.mp z) (by omega)
    · rw [if_neg c, Nat.add_zero, ih]
      by_cases h : j < n
      · rw [decide_eq_true h, decide_eq_true (show j < n + 1 by omega)]
      · by_cases h2 : j = n
        · subst h2
          rw [Bool.eq_false_iff.mpr c, Bool.and_false, Bool.and_false]
        · rw [decide_eq_false h, decide_eq_false (show ¬ j < n + 1 by omega)]
theorem msk_ext {n m : Nat} {g : Nat → Bool} (h : ∀ j, m.testBit j = (decide (j < n) && g j)) : m = msk n g := Nat.eq_of_testBit_eq fun j => by rw [h, msk_bit]
theorem msk_congr {n : Nat} {g k : Nat → Bool} (h : ∀ j, j < n → g j = k j) : msk n g = msk n k := msk_ext fun j => by
  rw [msk_bit]
  by_cases c : j < n
  · rw [h j c]
  · rw [decide_eq_false c]
    rfl
theorem msk_none {n : Nat} : msk n (fun _ => false) = 0 := (msk_ext fun j => by rw [Nat.zero_testBit, Bool.and_false]).symm
theorem msk_or {n : Nat} {g k : Nat → Bool} : msk n g ||| msk n k = msk n fun j => g j || k j := msk_ext fun j => by
  rw [Nat.testBit_or, msk_bit, msk_bit, Bool.and_or_distrib_left]
theorem msk_and {n : Nat} {g k : Nat → Bool} : msk n g &&& msk n k = msk n fun j => g j && k j := msk_ext fun j => by
  rw [Nat.testBit_and, msk_bit, msk_bit]
  by_cases c : j < n <;> simp [c]
theorem msk_one {n y : Nat} {g : Nat → Bool} (hy : y < n) : msk n g ||| 2 ^ y = msk n fun j => g j || decide (j = y) := msk_ext fun j => by
  rw [Nat.testBit_or, msk_bit, Nat.testBit_two_pow]
  by_cases c : j = y
  · subst c
    simp [hy]
  · simp [c, Ne.symm c]
theorem msk_zero {n : Nat} {g : Nat → Bool} : msk n g = 0 ↔ ∀ j, j < n → g j = false := by
  constructor
  · intro h j hj
    have := msk_bit n g j
    rw [h, Nat.zero_testBit, decide_eq_true hj, Bool.true_and] at this
    exact this.symm
  · intro h
    rw [← msk_none (n := n)]
    exact msk_congr h
/-- the points of a set, ascending -/
def fib (n : Nat) (g : Nat → Bool) : List Nat := (List.range n).filter g
theorem fib_mem {n j : Nat} {g : Nat → Bool} : j ∈ fib n g ↔ j < n ∧ g j = true := by
  unfold fib
  rw [List.mem_filter, List.mem_range]
theorem fib_len {n : Nat} {g : Nat → Bool} : (fib n g).length ≤ n := by
  unfold fib
  exact Nat.le_trans (List.length_filter_le _ _) (by simp)
theorem fib_congr {n : Nat} {c d : Nat → Bool} (h : ∀ i, i < n → c i = d i) : fib n c = fib n d := by
  unfold fib
  rw [List.filter_congr fun x hx => h x (List.mem_range.mp hx)]
theorem fib_nil {n : Nat} {g : Nat → Bool} : fib n g = [] ↔ ∀ j, j < n → g j = false := by
  unfold fib
  rw [List.filter_eq_nil_iff]
  simp
/-- the pairs of a relation, row by row -/
def prs (n : Nat) (f : Nat → Nat → Bool) : List (Nat × Nat) := (List.range n).flatMap fun x => (fib n (f x)).map fun y => (x, y)
theorem prs_mem {n : Nat} {f : Nat → Nat → Bool} {p : Nat × Nat} : p ∈ prs n f ↔ p.1 < n ∧ p.2 < n ∧ f p.1 p.2 = true := by
  unfold prs
  rw [List.mem_flatMap]
  constructor
  · rintro ⟨x, hx, h⟩
    obtain ⟨y, hy, e⟩ := List.mem_map.mp h
    subst e
    exact ⟨List.mem_range.mp hx, fib_mem.mp hy⟩
  · rintro ⟨h1, h2, h3⟩
    exact ⟨p.1, List.mem_range.mpr h1, List.mem_map.mpr ⟨p.2, fib_mem.mpr ⟨h2, h3⟩, rfl⟩⟩
theorem prs_upto {n k : Nat} {f : Nat → Nat → Bool} (h : k ≤ n) : ((List.range k).flatMap fun x => (fib n (f x)).map fun y => (x, y)).length ≤ k * n := by
  induction k with
  | zero => simp
  | succ k ih =>
    have := ih (by omega)
    have := fib_len (n := n) (g := f k)
    rw [List.range_succ, List.flatMap_append, List.length_append, Nat.succ_mul]
    simp only [List.flatMap_cons, List.flatMap_nil, List.append_nil, List.length_map]
    omega
theorem prs_len {n : Nat} {f : Nat → Nat → Bool} : (prs n f).length ≤ n * n := prs_upto (Nat.le_refl _)
def ordV (n : Nat) (ps : List (Nat × Nat)) : MV := .tup [nV n, .tup (ps.map prV)]
@[simp] theorem clo_ord {k n : Nat} {ps : List (Nat × Nat)} : cloV k (ordV n ps) = true := by simp [ordV]
/-! slices -/
theorem sIx_n {n d i : Nat} : HT.sIx n d (some (i : Int)) = min i n := by
  unfold HT.sIx
  have : ¬ ((i : Int) < 0) := by omega
  simp [this]
theorem cut_take {xs : List MV} {i : Nat} : cutM xs none (some (i : Int)) = xs.take i := by
  unfold cutM
  rw [show HT.sIx xs.length 0 none = 0 from rfl, sIx_n, List.drop_zero, Nat.sub_zero, Nat.min_comm, List.take_eq_take_iff]
  omega
theorem cut_drop {xs : List MV} {i : Nat} : cutM xs (some (i : Int)) none = xs.drop i := by
  unfold cutM
  rw [show HT.sIx xs.length xs.length none = xs.length from rfl, sIx_n]
  by_cases h : i ≤ xs.length
  · rw [Nat.min_eq_left h, List.take_of_length_le (by simp)]
  · rw [Nat.min_eq_right (by omega), Nat.sub_self, List.take_zero, List.drop_eq_nil_of_le (by omega)]
theorem cut_last {xs : List MV} : cutM xs (some (-1)) none = xs.drop (xs.length - 1) := by
  unfold cutM
  have e : HT.sIx xs.length 0 (some (-1)) = xs.length - 1 := by
    unfold HT.sIx
    simp
    omega
  rw [show HT.sIx xs.length xs.length none = xs.length from rfl, e, List.take_of_length_le (by simp)]
/-! tables of truth values in the heap -/
def rowB (n : Nat) (c : Nat → Bool) : List MV := tb n fun y => MV.bl (c y)
def rowsB (n : Nat) (f : Nat → Nat → Bool) : List (List MV) := tb n fun x => rowB n (f x)
theorem rowB_get {n y : Nat} {c : Nat → Bool} (h : y < n) : (rowB n c)[y]? = some (.bl (c y)) := tb_get h
theorem rowsB_get {n x : Nat} {f : Nat → Nat → Bool} (h : x < n) : (rowsB n f)[x]? = some (rowB n (f x)) := tb_get h
theorem rowB_len {n : Nat} {c : Nat → Bool} : (rowB n c).length = n := tb_len
theorem rowsB_len {n : Nat} {f : Nat → Nat → Bool} : (rowsB n f).length = n := tb_len
theorem rowB_congr {n : Nat} {c d : Nat → Bool} (h : ∀ y, y < n → c y = d y) : rowB n c = rowB n d := tb_congr fun y hy => by rw [h y hy]
theorem rowsB_congr {n : Nat} {f g : Nat → Nat → Bool} (h : ∀ x y, x < n → y < n → f x y = g x y) : rowsB n f = rowsB n g := tb_congr fun x hx => rowB_congr fun y hy => h x y hx hy
theorem rowB_set {n y : Nat} {c : Nat → Bool} {v : Bool} : (rowB n c).set y (.bl v) = rowB n fun j => if j = y then v else c j := by
  unfold rowB
  rw [tb_set]
  refine tb_congr fun i _ => ?_
  by_cases q : i = y <;> simp [q]
theorem rowsB_set {n x : Nat} {f : Nat → Nat → Bool} {c : Nat → Bool} : (rowsB n f).set x (rowB n c) = rowsB n fun i => if i = x then c else f i := by
  unfold rowsB
  rw [tb_set]
  refine tb_congr fun i _ => ?_
  by_cases q : i = x <;> simp [q]
theorem rowB_flat {n : Nat} {c : Nat → Bool} : (rowB n c).all flatT = true := List.all_eq_true.mpr fun x hx => by
  obtain ⟨i, _, e⟩ := tb_mem.mp hx
  rw [← e]
  rfl
theorem rowsB_flat {n : Nat} {f : Nat → Nat → Bool} : ∀ r ∈ rowsB n f, r.all flatT = true := fun r hr => by
  obtain ⟨i, _, e⟩ := tb_mem.mp hr
  rw [← e]
  exact rowB_flat
theorem rowsB_fls {n : Nat} {f : Nat → Nat → Bool} : MV.fls ((rowsB n f).map MV.fls) = matV n n f := by
  unfold rowsB rowB
  rw [tb_map]
  rfl
theorem matV_get {a b x : Nat} {f : Nat → Nat → Bool} (h : x < a) : (tb a fun x => MV.fls (tb b fun y => MV.bl (f x y)))[x]? = some (.fls (tb b fun y => .bl (f x y))) := tb_get h
theorem rep_bl {n : Nat} {v : Bool} : (List.replicate n [MV.bl v]).flatten = rowB n fun _ => v := by
  unfold rowB tb
  simp
  exact (List.eq_replicate_iff.mpr ⟨by simp, fun b hb => by simp at hb; exact hb.2.symm⟩).symm
theorem rep_int {n : Nat} {v : Int} : (List.replicate n [MV.int v]).flatten = tb n fun _ => MV.int v := by
  unfold tb
  simp
  exact (List.eq_replicate_iff.mpr ⟨by simp, fun b hb => by simp at hb; exact hb.2.symm⟩).symm
/-- a table standing behind pre: its top, a row, a row written -/
theorem tab_top {pre : MH} {b n : Nat} {f : Nat → Nat → Bool} (hb : pre.length = b) : (pre ++ matH b (rowsB n f))[b + n]? = some (.lst (refsM b n)) := by
  rw [ga hb, ← List.append_nil (matH b (rowsB n f)), mat_top rowsB_len]
theorem tab_row {pre : MH} {b n x : Nat} {f : Nat → Nat → Bool} (hb : pre.length = b) (hx : x < n) : (pre ++ matH b (rowsB n f))[b + x]? = some (.lst (rowB n (f x))) := by
  rw [ga hb, ← List.append_nil (matH b (rowsB n f)), mat_row (rowsB_get hx)]
theorem tab_set {pre : MH} {b n x : Nat} {f : Nat → Nat → Bool} {c : Nat → Bool} (hb : pre.length = b) (hx : x < n) : (pre ++ matH b (rowsB n f)).set (b + x) (.lst (rowB n c)) = pre ++ matH b (rowsB n fun i => if i = x then c else f i) := by
  rw [sa hb, ← List.append_nil (matH b (rowsB n f)), mat_set (by rw [rowsB_len]; exact hx), rowsB_set, List.append_nil]
/-- a place behind a source and other places -/
theorem at1 {S os t : MH} {o : MO} {a p : Nat} (h1 : S.length = a) (hp : p = a + os.length) : (S ++ (os ++ (o :: t)))[p]? = some o := by
  subst hp
  rw [ga h1, ga0 rfl]
  rfl
theorem st1 {S os t : MH} {o u : MO} {a p : Nat} (h1 : S.length = a) (hp : p = a + os.length) : (S ++ (os ++ (o :: t))).set p u = S ++ (os ++ (u :: t)) := by
  subst hp
  rw [sa h1, sa0 rfl]
  rfl
theorem at2 {S os t : MH} {o o2 : MO} {a p : Nat} (h1 : S.length = a) (hp : p = a + os.length + 1) : (S ++ (os ++ (o :: o2 :: t)))[p]? = some o2 := by
  subst hp
  rw [Nat.add_assoc, ga h1, ga rfl]
  rfl
theorem st2 {S os t : MH} {o o2 u : MO} {a p : Nat} (h1 : S.length = a) (hp : p = a + os.length + 1) : (S ++ (os ++ (o :: o2 :: t))).set p u = S ++ (os ++ (o :: u :: t)) := by
  subst hp
  rw [Nat.add_assoc, sa h1, sa rfl]
  rfl
/-- a strict order on the numbers below n, by its table -/
structure SOrd (n : Nat) (f : Nat → Nat → Bool) : Prop where
  rk : ∃ ρ : Nat → Nat, ∀ x y, f x y = true → ρ x < ρ y
  lt : ∀ x y, f x y = true → x < n ∧ y < n
  tr : ∀ x y z, f x y = true → f y z = true → f x z = true
theorem SOrd.irr {n : Nat} {f : Nat → Nat → Bool} (h : SOrd n f) (x : Nat) : f x x = false := by
  obtain ⟨ρ, hr⟩ := h.rk
  cases c : f x x with
  | false => rfl
  | true => exact absurd (hr x x c) (Nat.lt_irrefl _)
theorem SOrd.asym {n : Nat} {f : Nat → Nat → Bool} (h : SOrd n f) {x y : Nat} (a : f x y = true) : f y x = false := by
  cases c : f y x with
  | false => rfl
  | true =>
    have := h.irr x
    rw [h.tr x y x a c] at this
    cases this
/-- at most -/
def leB (g : Nat → Nat → Bool) (a b : Nat) : Bool := a == b || g a b
/-- a map: values of n points, all below m -/
structure Mp (n m : Nat) (r : List Nat) : Prop where
  len : r.length = n
  lt : ∀ v ∈ r, v < m
theorem Mp.at {n m x : Nat} {r : List Nat} (h : Mp n m r) (hx : x < n) : ∃ v, r[x]? = some v ∧ v < m := ⟨r[x]'(by rw [h.len]; exact hx), List.getElem?_eq_getElem _, h.lt _ (List.getElem_mem _)⟩
theorem Mp.set {n m x v : Nat} {r : List Nat} (h : Mp n m r) (hv : v < m) : Mp n m (r.set x v) := ⟨by rw [List.length_set]; exact h.len, fun w hw => by
  rcases List.mem_or_eq_of_mem_set hw with z | z
  · exact h.lt w z
  · rw [z]
    exact hv⟩
end Mi
set_option maxHeartbeats 2000000
/-! Mi: list.remove of a number. -/
namespace Mi
open PySem L2
@[simp ↓] def remF (x : MV) (ys : List MV) (h : MH) : Res MV := match x, ys with
  | .ref l, [.int k] => match h[l]? with
    | some (.lst xs) => match intsOf xs with
      | some ns => if ns.idxOf k < ns.length then ok .non (h.set l (.lst (xs.eraseIdx (ns.idxOf k)))) else none
      | none => none
    | _ => none
  | _, _ => none
section
variable {X : Cx} {c : XC} {K : PySem.W.Frag} {W : Wd}
theorem idx_le {k : Int} : ∀ {ns : List Int} {m : Nat}, ns[m]? = some k → ns.idxOf k ≤ m
  | [], _, e => by simp at e
  | x :: xs, 0, e => by
    simp at e
    rw [List.idxOf_cons, e]
    simp
  | x :: xs, m + 1, e => by
    have ih := idx_le (ns := xs) (m := m) (k := k) (by simpa using e)
    rw [List.idxOf_cons]
    cases (x == k) with
    | true => exact Nat.zero_le _
    | false => exact Nat.succ_le_succ ih
theorem mt_rem : MtM X "list.remove" rRemI := mt_remove
theorem mm_rem : MthM K c rRemI remF := fun W h x ys v vs Q S r rs p => by
  unfold remF at p
  split at p
  · rename_i l k
    obtain ⟨u, rfl, ru⟩ := rvs_one rs
    cases hl : h[l]? with
    | none =>
      rw [hl] at p
      exact p.elim
    | some o =>
      rw [hl] at p
      cases o with
      | dead => exact p.elim
      | dK kvs => exact p.elim
      | lst xs =>
        dsimp only at p
        cases hn : intsOf xs with
        | none =>
          rw [hn] at p
          exact p.elim
        | some ns =>
          rw [hn] at p
          dsimp only at p
          by_cases q : ns.idxOf k < ns.length
          · rw [if_pos q] at p
            obtain ⟨a, ws, rfl, e2, e3, t⟩ := S.lstAt hl r
            obtain ⟨h1, h2⟩ := ints_V t hn
            subst h1
            refine ⟨a, ns, k, ns.idxOf k, rfl, by rw [rv_int ru], e3, by rw [List.getElem?_eq_getElem q, List.getElem_idxOf], fun m hm z => ?_, ?_⟩
            · have := idx_le z
              omega
            · refine p (W.wr a (.lst ((ns.eraseIdx (ns.idxOf k)).map V.int))) (Ext.wr S e2) (S.wr e2 ⟨_, upd_same, ?_⟩) _ .non
              rw [← erase_mapI]
              exact (t.eraseIdx _).mono (Ext.wr S e2)
          · rw [if_neg q] at p
            exact p.elim
  · exact p.elim
end
theorem ints_ns : ∀ {xs : List Nat}, intsOf (xs.map nV) = some (xs.map fun (x : Nat) => (x : Int))
  | [] => rfl
  | x :: xs => by
    rw [List.map_cons]
    unfold intsOf
    rw [ints_ns]
    rfl
theorem idx_ns {k : Nat} : ∀ {xs : List Nat}, (xs.map fun (x : Nat) => (x : Int)).idxOf (k : Int) = xs.idxOf k
  | [] => rfl
  | x :: xs => by
    rw [List.map_cons, List.idxOf_cons, List.idxOf_cons, idx_ns]
    by_cases h : x = k
    · subst h
      simp
    · have : ¬ ((x : Int) = (k : Int)) := by omega
      rw [beq_eq_false_iff_ne.mpr h, beq_eq_false_iff_ne.mpr this]
end Mi
set_option maxHeartbeats 2000000
namespace Mi.k13
open PySem L2
noncomputable section
def m_law_start : MT := (seqS (setS 1 (flsM (lcM (seqI (varM 0)) [2] (one 2) yesT (bltM intF (consA (varM 2) nilA)))))
    (retS (refM (lstM (consA (varM 1) (consA (cM (.int 0)) (consA (cM (.int 0)) (consA (cM (.int 0)) (consA (cM (.int 0)) (consA (flsM (lcM (seqI (varM 1)) [2] (one 2) yesT (opM modF (bltM intF (consA (varM 2) nilA)) (cM (.int 2147483629))))) nilA))))))))))
def f_law_start : MF := defM 1 3 m_law_start
theorem n_law_start : ∀ (xs : List MV) (h : MH), (f_law_start xs h).isSome = true → xs.length = 1 := fun _ _ e => defM_len e
def m_law_mixed : MT := (seqS (setS 2 (opM modF (bltM intF (consA (opM addF (opM addF (opM mulF (varM 0) (cM (.int 48271))) (opM mulF (varM 1) (cM (.int 69621)))) (cM (.int 12345))) nilA)) (cM (.int 2147483647))))
    (seqS (setS 3 (opM modF (bltM intF (consA (opM addF (opM addF (opM mulF (varM 2) (varM 2)) (opM mulF (varM 1) (cM (.int 40692)))) (opM divF (varM 2) (cM (.int 7)))) nilA)) (cM (.int 2147483399))))
    (retS (opM modF (bltM intF (consA (opM addF (opM addF (opM mulF (varM 3) (cM (.int 16807))) (opM divF (varM 3) (cM (.int 1013)))) (varM 1)) nilA)) (cM (.int 998244353))))))
def f_law_mixed : MF := defM 2 4 m_law_mixed
theorem n_law_mixed : ∀ (xs : List MV) (h : MH), (f_law_mixed xs h).isSome = true → xs.length = 2 := fun _ _ e => defM_len e
def m_law_draw : MT := (seqS (subS (opM addF (opM ixF (varM 0) (cM (.int 4))) (cM (.int 1))) (varM 0) (cM (.int 4)))
    (seqS (setS 2 (opM ixF (varM 0) (cM (.int 4))))
    (seqS (ifS (orT (tstM (opM eqF (opM ixF (varM 0) (cM (.int 2))) (cM (.int 0)))) (tstM (opM eqF (opM ixF (varM 0) (cM (.int 3))) (cM (.int 0))))) (seqS (ifS (tstM (opM geF (opM ixF (varM 0) (cM (.int 1))) (bltM lenF (consA (opM ixF (varM 0) (cM (.int 0))) nilA)))) (seqS (setS 3 (cM (.int 0)))
    (seqS (ifS (tstM (opM gtF (bltM lenF (consA (opM ixF (varM 0) (cM (.int 5))) nilA)) (cM (.int 0)))) (setS 3 (opM ixF (opM ixF (varM 0) (cM (.int 5))) (opM modF (bltM intF (consA (varM 2) nilA)) (bltM lenF (consA (opM ixF (varM 0) (cM (.int 5))) nilA))))) nilS)
    (retS (opM modF (bltM intF (consA (callM f_law_mixed [] (consA (varM 3) (consA (varM 2) nilA))) nilA)) (varM 1))))) nilS)
    (seqS (setS 4 (opM ixF (opM ixF (varM 0) (cM (.int 0))) (opM ixF (varM 0) (cM (.int 1)))))
    (seqS (subS (opM addF (opM ixF (varM 0) (cM (.int 1))) (cM (.int 1))) (varM 0) (cM (.int 1)))
    (seqS (ifS (orT (tstM (opM ltF (varM 4) (cM (.int 2)))) (tstM (opM eqF (opM modF (bltM intF (consA (varM 4) nilA)) (cM (.int 2))) (cM (.int 1))))) (retS (opM modF (bltM intF (consA (callM f_law_mixed [] (consA (opM ixF (opM ixF (varM 0) (cM (.int 5))) (opM subF (opM ixF (varM 0) (cM (.int 1))) (cM (.int 1)))) (consA (varM 2) nilA))) nilA)) (varM 1))) nilS)
    (seqS (subS (opM divF (varM 4) (cM (.int 2))) (varM 0) (cM (.int 2)))
    (subS (cM (.int 60)) (varM 0) (cM (.int 3)))))))) nilS)
    (seqS (setS 5 (opM modF (bltM intF (consA (opM ixF (varM 0) (cM (.int 2))) nilA)) (varM 1)))
    (seqS (subS (opM divF (opM ixF (varM 0) (cM (.int 2))) (varM 1)) (varM 0) (cM (.int 2)))
    (seqS (subS (opM subF (opM ixF (varM 0) (cM (.int 3))) (cM (.int 1))) (varM 0) (cM (.int 3)))
    (retS (varM 5))))))))
def f_law_draw : MF := defM 2 6 m_law_draw
theorem n_law_draw : ∀ (xs : List MV) (h : MH), (f_law_draw xs h).isSome = true → xs.length = 2 := fun _ _ e => defM_len e
def b1_law_same (r : MF) : MT := (wipT [2] (ifS (notT (truM (callM r [] (consA (opM ixF (varM 0) (varM 2)) (consA (opM ixF (varM 1) (varM 2)) nilA))))) (retS (cM (.bl false))) nilS))
def m_law_same (r : MF) : MT := (seqS (ifS (orT (truM (isiM [.tuple] (varM 1))) (truM (isiM [.list] (varM 1)))) (seqS (ifS (orT (tstM (opM neF (isiM [.tuple] (varM 1)) (isiM [.tuple] (varM 0)))) (tstM (opM neF (isiM [.list] (varM 1)) (isiM [.list] (varM 0))))) (retS (cM (.bl false))) nilS)
    (seqS (ifS (tstM (opM neF (bltM lenF (consA (varM 0) nilA)) (bltM lenF (consA (varM 1) nilA)))) (retS (cM (.bl false))) nilS)
    (seqS (preW [2] (forM (rng1 (consA (bltM lenF (consA (varM 1) nilA)) nilA)) (one 2) (b1_law_same r)))
    (retS (cM (.bl true)))))) nilS)
    (seqS (ifS (tstM (opM isF (varM 1) (cM .non))) (retS (opM isF (varM 0) (cM .non))) nilS)
    (seqS (ifS (truM (isiM [.bool] (varM 1))) (retS (andV (isiM [.bool] (varM 0)) (opM eqF (varM 0) (varM 1)))) nilS)
    (seqS (ifS (truM (isiM [.int] (varM 1))) (retS (andV (isiM [.int] (varM 0)) (andV (notV (isiM [.bool] (varM 0))) (opM eqF (varM 0) (varM 1))))) nilS)
    (retS (andV (isiM [.str] (varM 0)) (opM eqF (varM 0) (varM 1))))))))
def fr_law_same : Nat → MF
  | 0 => fun _ _ => none
  | k + 1 => defM 2 3 (m_law_same (fr_law_same k))
def f_law_same : MF := fr_law_same 6
theorem nr_law_same : ∀ (k : Nat) (xs : List MV) (h : MH), (fr_law_same k xs h).isSome = true → xs.length = 2
  | 0, _, _, e => by cases e
  | _ + 1, _, _, e => defM_len e
theorem n_law_same : ∀ (xs : List MV) (h : MH), (f_law_same xs h).isSome = true → xs.length = 2 := nr_law_same _
def m_law_at_most : MT := (retS (orV (opM eqF (varM 1) (varM 2)) (opM ixF (opM ixF (varM 0) (varM 1)) (varM 2))))
def f_law_at_most : MF := defM 3 3 m_law_at_most
theorem n_law_at_most : ∀ (xs : List MV) (h : MH), (f_law_at_most xs h).isSome = true → xs.length = 3 := fun _ _ e => defM_len e
def b1_law_map : MT := (wipT [6, 7, 9, 12] (seqS (setS 7 (flsM (lcM (rng1 (consA (varM 3) nilA)) [8] (one 8) (truM (opM ixF (opM ixF (opM ixF (varM 1) (cM (.int 1))) (varM 8)) (varM 6))) (opM ixF (varM 5) (varM 8)))))
    (seqS (setS 9 (flsM (lcM (rng1 (consA (varM 4) nilA)) [10] (one 10) (tstM (opM eqF (bltM lenF (consA (flsM (lcM (seqI (varM 7)) [11] (one 11) (notT (truM (callM f_law_at_most [] (consA (opM ixF (varM 2) (cM (.int 1))) (consA (varM 11) (consA (varM 10) nilA)))))) (varM 11))) nilA)) (cM (.int 0)))) (varM 10))))
    (seqS (ifS (tstM (opM eqF (bltM lenF (consA (varM 9) nilA)) (cM (.int 0)))) (seqS (setS 12 (callM f_law_draw [] (consA (varM 0) (consA (varM 4) nilA))))
    (retS (flsM (repL (flsM (lstM (consA (varM 12) nilA))) (varM 3))))) nilS)
    (subS (opM ixF (varM 9) (callM f_law_draw [] (consA (varM 0) (consA (bltM lenF (consA (varM 9) nilA)) nilA)))) (varM 5) (varM 6))))))
def m_law_map : MT := (seqS (setS 3 (bltM lenF (consA (opM ixF (varM 1) (cM (.int 1))) nilA)))
    (seqS (setS 4 (bltM lenF (consA (opM ixF (varM 2) (cM (.int 1))) nilA)))
    (seqS (setS 5 (refM (repL (flsM (lstM (consA (cM (.int 0)) nilA))) (varM 3))))
    (seqS (preW [6, 7, 9, 12] (forM (seqI (opM ixF (varM 1) (cM (.int 2)))) (one 6) b1_law_map))
    (retS (frzM (varM 5)))))))
def f_law_map : MF := cutF (defM 3 13 m_law_map)
theorem n_law_map : ∀ (xs : List MV) (h : MH), (f_law_map xs h).isSome = true → xs.length = 3 := cut_len fun _ _ e => defM_len e
def m_law_lows : MT := (seqS (ifS (tstM (opM eqF (bltM lenF (consA (varM 1) nilA)) (cM (.int 0)))) (retS (flsM (lstM nilA))) nilS)
    (seqS (setS 3 (opM ixF (varM 1) (callM f_law_draw [] (consA (varM 0) (consA (bltM lenF (consA (varM 1) nilA)) nilA)))))
    (seqS (ifS (tstM (opM ltF (varM 2) (cM (.int 2)))) (retS (flsM (repL (flsM (lstM (consA (varM 3) nilA))) (bltM intF (consA (opM geF (callM f_law_draw [] (consA (varM 0) (consA (cM (.int 6)) nilA))) (opM ixF (flsM (lstM (consA (cM (.int 4)) (consA (cM (.int 1)) nilA)))) (varM 2))) nilA))))) nilS)
    (seqS (ifS (tstM (opM eqF (varM 2) (cM (.int 2)))) (retS (flsM (lcM (seqI (sliT (varM 1) noO (someO (cM (.int 3))))) [4] (one 4) (tstM (opM eqF (callM f_law_draw [] (consA (varM 0) (consA (cM (.int 2)) nilA))) (cM (.int 0)))) (varM 4)))) nilS)
    (seqS (ifS (tstM (opM eqF (varM 2) (cM (.int 3)))) (retS (sliT (varM 1) (someO (unM negF (cM (.int 1)))) noO)) nilS)
    (retS (flsM (catL (flsM (lstM (consA (varM 3) nilA))) (flsM (lcM (rng1 (consA (callM f_law_draw [] (consA (varM 0) (consA (opM subF (varM 2) (cM (.int 2))) nilA))) nilA)) [5] (one 5) yesT (opM ixF (varM 1) (callM f_law_draw [] (consA (varM 0) (consA (bltM lenF (consA (varM 1) nilA)) nilA))))))))))))))
def f_law_lows : MF := defM 3 6 m_law_lows
theorem n_law_lows : ∀ (xs : List MV) (h : MH), (f_law_lows xs h).isSome = true → xs.length = 3 := fun _ _ e => defM_len e
def b1_law_order : MT := (wipT [4] (dropS (mthM insF (varM 3) (consA (callM f_law_draw [] (consA (varM 0) (consA (opM addF (varM 4) (cM (.int 1))) nilA))) (consA (varM 4) nilA)))))
def b2_law_order : MT := (wipT [7, 10] (ifS (orT (tstM (opM eqF (varM 7) (varM 9))) (truM (opM ixF (opM ixF (varM 6) (varM 7)) (varM 9)))) (seqS (setS 10 (opM ixF (varM 6) (varM 7)))
    (subS (cM (.bl true)) (varM 10) (varM 8))) nilS))
def b3_law_order : MT := (wipT [7, 9, 10] (preW [7, 10] (forM (rng1 (consA (varM 1) nilA)) (one 7) b2_law_order)))
def b4_law_order : MT := (wipT [4, 7, 8, 9, 10] (seqS (setS 8 (opM ixF (varM 3) (varM 4)))
    (preW [7, 9, 10] (forM (seqI (callM f_law_lows [] (consA (varM 0) (consA (sliT (varM 3) noO (someO (varM 4))) (consA (varM 5) nilA))))) (one 9) b3_law_order))))
def b5_law_order : MT := (wipT [7] (setS 11 (flsM (catL (varM 11) (flsM (lcM (rng1 (consA (varM 1) nilA)) [8] (one 8) (truM (opM ixF (opM ixF (varM 6) (varM 7)) (varM 8))) (tupM (consA (varM 7) (consA (varM 8) nilA)))))))))
def m_law_order : MT := (seqS (setS 3 (refM (lstM nilA)))
    (seqS (preW [4] (forM (rng1 (consA (varM 1) nilA)) (one 4) b1_law_order))
    (seqS (setS 5 (opM ixF (varM 2) (callM f_law_draw [] (consA (varM 0) (consA (bltM lenF (consA (varM 2) nilA)) nilA)))))
    (seqS (setS 6 (refM (lcM (rng1 (consA (varM 1) nilA)) [7] (one 7) yesT (refM (repL (flsM (lstM (consA (cM (.bl false)) nilA))) (varM 1))))))
    (seqS (preW [4, 7, 8, 9, 10] (forM (rng1 (consA (varM 1) nilA)) (one 4) b4_law_order))
    (seqS (setS 11 (flsM (lstM nilA)))
    (seqS (preW [7] (forM (rng1 (consA (varM 1) nilA)) (one 7) b5_law_order))
    (seqS (setS 12 (flsM (lcM (rng1 (consA (varM 1) nilA)) [7] (one 7) yesT (flsM (lcM (rng1 (consA (varM 1) nilA)) [8] (one 8) (orT (truM (opM ixF (opM ixF (varM 6) (varM 7)) (varM 8))) (truM (opM ixF (opM ixF (varM 6) (varM 8)) (varM 7)))) (varM 8))))))
    (retS (tupM (consA (tupM (consA (varM 1) (consA (bltM tupF (consA (varM 11) nilA)) nilA))) (consA (frzM (varM 6)) (consA (frzM (varM 3)) (consA (varM 12) nilA))))))))))))))
def f_law_order : MF := cutF (defM 3 13 m_law_order)
theorem n_law_order : ∀ (xs : List MV) (h : MH), (f_law_order xs h).isSome = true → xs.length = 3 := cut_len fun _ _ e => defM_len e
def m_law_orders : MT := (seqS (setS 1 (callM f_law_draw [] (consA (varM 0) (consA (cM (.int 20)) nilA))))
    (seqS (setS 2 (opM addF (cM (.int 1)) (callM f_law_draw [] (consA (varM 0) (consA (cM (.int 8)) nilA)))))
    (seqS (setS 3 (opM addF (cM (.int 1)) (callM f_law_draw [] (consA (varM 0) (consA (cM (.int 8)) nilA)))))
    (seqS (ifS (tstM (opM eqF (varM 1) (cM (.int 0)))) (asgS (unpL [2, 3]) (flsM (lstM (consA (opM addF (cM (.int 9)) (callM f_law_draw [] (consA (varM 0) (consA (cM (.int 4)) nilA)))) (consA (opM addF (cM (.int 1)) (callM f_law_draw [] (consA (varM 0) (consA (cM (.int 5)) nilA)))) nilA))))) nilS)
    (seqS (ifS (tstM (opM eqF (varM 1) (cM (.int 1)))) (asgS (unpL [2, 3]) (flsM (lstM (consA (opM addF (cM (.int 1)) (callM f_law_draw [] (consA (varM 0) (consA (cM (.int 5)) nilA)))) (consA (opM addF (cM (.int 9)) (callM f_law_draw [] (consA (varM 0) (consA (cM (.int 4)) nilA)))) nilA))))) nilS)
    (seqS (ifS (tstM (opM eqF (varM 1) (cM (.int 2)))) (asgS (unpL [2, 3]) (flsM (lstM (consA (cM (.int 0)) (consA (callM f_law_draw [] (consA (varM 0) (consA (cM (.int 6)) nilA))) nilA))))) nilS)
    (seqS (ifS (tstM (opM eqF (varM 1) (cM (.int 3)))) (retS (tupM (consA (callM f_law_order [] (consA (varM 0) (consA (callM f_law_draw [] (consA (varM 0) (consA (cM (.int 65)) nilA))) (consA (tupM (consA (cM (.int 2)) nilA)) nilA)))) (consA (callM f_law_order [] (consA (varM 0) (consA (opM addF (cM (.int 1)) (callM f_law_draw [] (consA (varM 0) (consA (cM (.int 3)) nilA)))) (consA (tupM (consA (cM (.int 2)) (consA (cM (.int 3)) nilA))) nilA)))) nilA)))) nilS)
    (retS (tupM (consA (callM f_law_order [] (consA (varM 0) (consA (varM 2) (consA (tupM (consA (cM (.int 0)) (consA (cM (.int 1)) (consA (cM (.int 2)) (consA (cM (.int 3)) (consA (cM (.int 4)) (consA (cM (.int 5)) nilA))))))) nilA)))) (consA (callM f_law_order [] (consA (varM 0) (consA (varM 3) (consA (tupM (consA (cM (.int 0)) (consA (cM (.int 1)) (consA (cM (.int 2)) (consA (cM (.int 3)) (consA (cM (.int 4)) (consA (cM (.int 5)) nilA))))))) nilA)))) nilA)))))))))))
def f_law_orders : MF := defM 1 4 m_law_orders
theorem n_law_orders : ∀ (xs : List MV) (h : MH), (f_law_orders xs h).isSome = true → xs.length = 1 := fun _ _ e => defM_len e
def m_law_covers : MT := (retS (andV (opM ixF (opM ixF (varM 0) (varM 1)) (varM 2)) (opM eqF (bltM lenF (consA (flsM (lcM (rng1 (consA (bltM lenF (consA (varM 0) nilA)) nilA)) [3] (one 3) (andT (truM (opM ixF (opM ixF (varM 0) (varM 1)) (varM 3))) (truM (opM ixF (opM ixF (varM 0) (varM 3)) (varM 2)))) (varM 3))) nilA)) (cM (.int 0)))))
def f_law_covers : MF := defM 3 4 m_law_covers
theorem n_law_covers : ∀ (xs : List MV) (h : MH), (f_law_covers xs h).isSome = true → xs.length = 3 := fun _ _ e => defM_len e
def b1_law_fits : MT := (wipT [6] (seqS (ifS (andT (truM (opM ixF (opM ixF (opM ixF (varM 0) (cM (.int 1))) (varM 6)) (varM 3))) (notT (truM (callM f_law_at_most [] (consA (varM 5) (consA (opM ixF (varM 2) (varM 6)) (consA (varM 4) nilA))))))) (retS (cM (.bl false))) nilS)
    (ifS (andT (truM (opM ixF (opM ixF (opM ixF (varM 0) (cM (.int 1))) (varM 3)) (varM 6))) (notT (truM (callM f_law_at_most [] (consA (varM 5) (consA (varM 4) (consA (opM ixF (varM 2) (varM 6)) nilA))))))) (retS (cM (.bl false))) nilS)))
def m_law_fits : MT := (seqS (setS 5 (opM ixF (varM 1) (cM (.int 1))))
    (seqS (preW [6] (forM (seqI (opM ixF (opM ixF (varM 0) (cM (.int 3))) (varM 3))) (one 6) b1_law_fits))
    (retS (cM (.bl true)))))
def f_law_fits : MF := defM 5 7 m_law_fits
theorem n_law_fits : ∀ (xs : List MV) (h : MH), (f_law_fits xs h).isSome = true → xs.length = 5 := fun _ _ e => defM_len e
def m_law_kind : MT := (seqS (setS 5 (opM ixF (varM 1) (cM (.int 1))))
    (seqS (setS 6 (opM ixF (varM 2) (varM 3)))
    (seqS (ifS (tstM (opM eqF (varM 6) (varM 4))) (retS (cM (.str "same"))) nilS)
    (seqS (setS 7 (callM f_law_fits [] (consA (varM 0) (consA (varM 1) (consA (varM 2) (consA (varM 3) (consA (varM 4) nilA)))))))
    (seqS (ifS (orT (truM (callM f_law_covers [] (consA (varM 5) (consA (varM 6) (consA (varM 4) nilA))))) (truM (callM f_law_covers [] (consA (varM 5) (consA (varM 4) (consA (varM 6) nilA)))))) (retS (opM ixF (flsM (lstM (consA (cM (.str "stuck")) (consA (cM (.str "good")) nilA)))) (bltM intF (consA (varM 7) nilA)))) nilS)
    (seqS (ifS (notT (truM (varM 7))) (retS (cM (.str "rough"))) nilS)
    (retS (opM ixF (flsM (lstM (consA (cM (.str "apart")) (consA (cM (.str "far")) nilA)))) (bltM intF (consA (orV (opM ixF (opM ixF (varM 5) (varM 6)) (varM 4)) (opM ixF (opM ixF (varM 5) (varM 4)) (varM 6))) nilA))))))))))
def f_law_kind : MF := defM 5 8 m_law_kind
theorem n_law_kind : ∀ (xs : List MV) (h : MH), (f_law_kind xs h).isSome = true → xs.length = 5 := fun _ _ e => defM_len e
def b1_law_steps_of : MT := (wipT [5] (setS 4 (flsM (catL (varM 4) (flsM (lcM (rng1 (consA (bltM lenF (consA (opM ixF (varM 1) (cM (.int 1))) nilA)) nilA)) [6] (one 6) (tstM (opM eqF (callM f_law_kind [] (consA (varM 0) (consA (varM 1) (consA (varM 2) (consA (varM 5) (consA (varM 6) nilA)))))) (varM 3))) (tupM (consA (varM 5) (consA (varM 6) nilA)))))))))
def m_law_steps_of : MT := (seqS (setS 4 (flsM (lstM nilA)))
    (seqS (preW [5] (forM (rng1 (consA (bltM lenF (consA (varM 2) nilA)) nilA)) (one 5) b1_law_steps_of))
    (retS (varM 4))))
def f_law_steps_of : MF := defM 4 7 m_law_steps_of
theorem n_law_steps_of : ∀ (xs : List MV) (h : MH), (f_law_steps_of xs h).isSome = true → xs.length = 4 := fun _ _ e => defM_len e
def m_law_wrong : MT := (seqS (setS 4 (bltM lenF (consA (varM 3) nilA)))
    (seqS (setS 5 (bltM lenF (consA (opM ixF (varM 2) (cM (.int 1))) nilA)))
    (seqS (setS 6 (opM ixF (flsM (lstM (consA (cM (.str "same")) (consA (cM (.str "far")) (consA (cM (.str "apart")) (consA (cM (.str "stuck")) (consA (cM (.str "rough")) (consA (cM (.str "point")) (consA (cM (.str "value")) nilA))))))))) (callM f_law_draw [] (consA (varM 0) (consA (cM (.int 7)) nilA)))))
    (seqS (ifS (orT (tstM (opM eqF (varM 6) (cM (.str "point")))) (tstM (opM eqF (varM 6) (cM (.str "value"))))) (seqS (setS 7 (flsM (catL (callM f_law_steps_of [] (consA (varM 1) (consA (varM 2) (consA (varM 3) (consA (cM (.str "good")) nilA))))) (flsM (lstM (consA (tupM (consA (cM (.int 0)) (consA (cM (.int 0)) nilA))) nilA))))))
    (seqS (asgS (unp [8, 9]) (opM ixF (varM 7) (callM f_law_draw [] (consA (varM 0) (consA (bltM max2F (consA (cM (.int 1)) (consA (opM subF (bltM lenF (consA (varM 7) nilA)) (cM (.int 1))) nilA))) nilA)))))
    (seqS (ifS (tstM (opM eqF (varM 6) (cM (.str "point")))) (retS (tupM (consA (opM ixF (flsM (lstM (consA (opM addF (varM 8) (varM 4)) (consA (opM subF (varM 8) (varM 4)) (consA (opM powF (cM (.int 10)) (cM (.int 59))) (consA (opM subF (cM (.int 0)) (opM powF (cM (.int 10)) (cM (.int 59)))) nilA)))))) (callM f_law_draw [] (consA (varM 0) (consA (cM (.int 4)) nilA)))) (consA (varM 9) nilA)))) nilS)
    (retS (tupM (consA (varM 8) (consA (opM ixF (flsM (lstM (consA (opM addF (varM 9) (varM 5)) (consA (opM subF (varM 9) (varM 5)) (consA (opM powF (cM (.int 10)) (cM (.int 59))) (consA (opM subF (cM (.int 0)) (opM powF (cM (.int 10)) (cM (.int 59)))) nilA)))))) (callM f_law_draw [] (consA (varM 0) (consA (cM (.int 4)) nilA)))) nilA))))))) nilS)
    (seqS (setS 7 (callM f_law_steps_of [] (consA (varM 1) (consA (varM 2) (consA (varM 3) (consA (varM 6) nilA))))))
    (seqS (ifS (tstM (opM eqF (bltM lenF (consA (varM 7) nilA)) (cM (.int 0)))) (retS (tupM (consA (varM 4) (consA (cM (.int 0)) nilA)))) nilS)
    (retS (opM ixF (varM 7) (callM f_law_draw [] (consA (varM 0) (consA (bltM lenF (consA (varM 7) nilA)) nilA)))))))))))
def f_law_wrong : MF := defM 4 10 m_law_wrong
theorem n_law_wrong : ∀ (xs : List MV) (h : MH), (f_law_wrong xs h).isSome = true → xs.length = 4 := fun _ _ e => defM_len e
def b1_high_masks : MT := (wipT [4, 5] (subS (opM orF (opM ixF (varM 3) (varM 4)) (opM shlF (cM (.int 1)) (varM 5))) (varM 3) (varM 4)))
def m_high_masks : MT := (seqS (asgS (unp [1, 2]) (varM 0))
    (seqS (setS 3 (refM (repL (flsM (lstM (consA (cM (.int 0)) nilA))) (varM 1))))
    (seqS (preW [4, 5] (forM (seqI (varM 2)) (unp [4, 5]) b1_high_masks))
    (retS (bltM tupF (consA (varM 3) nilA))))))
def f_high_masks : MF := cutF (defM 1 6 m_high_masks)
theorem n_high_masks : ∀ (xs : List MV) (h : MH), (f_high_masks xs h).isSome = true → xs.length = 1 := cut_len fun _ _ e => defM_len e
def b1_low_masks : MT := (wipT [4, 5] (subS (opM orF (opM ixF (varM 3) (varM 5)) (opM shlF (cM (.int 1)) (varM 4))) (varM 3) (varM 5)))
def m_low_masks : MT := (seqS (asgS (unp [1, 2]) (varM 0))
    (seqS (setS 3 (refM (repL (flsM (lstM (consA (cM (.int 0)) nilA))) (varM 1))))
    (seqS (preW [4, 5] (forM (seqI (varM 2)) (unp [4, 5]) b1_low_masks))
    (retS (bltM tupF (consA (varM 3) nilA))))))
def f_low_masks : MF := cutF (defM 1 6 m_low_masks)
theorem n_low_masks : ∀ (xs : List MV) (h : MH), (f_low_masks xs h).isSome = true → xs.length = 1 := cut_len fun _ _ e => defM_len e
def m_at_least_masks : MT := (retS (bltM tupF (consA (flsM (lcM (enmI (consA (callM f_high_masks [] (consA (varM 0) nilA)) nilA)) [1, 2] (unp [1, 2]) yesT (opM orF (varM 2) (opM shlF (cM (.int 1)) (varM 1))))) nilA)))
def f_at_least_masks : MF := defM 1 3 m_at_least_masks
theorem n_at_least_masks : ∀ (xs : List MV) (h : MH), (f_at_least_masks xs h).isSome = true → xs.length = 1 := fun _ _ e => defM_len e
def b1_points_in : MT := (wipT [2] (seqS (setS 2 (opM andF (varM 0) (unM negF (varM 0))))
    (seqS (dropS (mthM appF (varM 1) (consA (opM subF (bitsM (varM 2)) (cM (.int 1))) nilA)))
    (setS 0 (opM subF (varM 0) (varM 2))))))
def m_points_in : MT := (seqS (setS 1 (refM (lstM nilA)))
    (seqS (preW [2] (whlG (truM (varM 0)) b1_points_in 70))
    (retS (bltM tupF (consA (varM 1) nilA)))))
def f_points_in : MF := cutF (defM 1 3 m_points_in)
theorem n_points_in : ∀ (xs : List MV) (h : MH), (f_points_in xs h).isSome = true → xs.length = 1 := cut_len fun _ _ e => defM_len e
def m_points_of : MT := (retS (bltM tupF (consA (flsM (lcM (seqI (varM 0)) [1] (one 1) yesT (callM f_points_in [] (consA (varM 1) nilA)))) nilA)))
def f_points_of : MF := defM 1 2 m_points_of
theorem n_points_of : ∀ (xs : List MV) (h : MH), (f_points_of xs h).isSome = true → xs.length = 1 := fun _ _ e => defM_len e
def b1_fits : MT := (wipT [5] (ifS (notT (truM (opM andF (opM shrF (opM ixF (varM 4) (opM ixF (varM 0) (varM 1))) (opM ixF (varM 0) (varM 5))) (cM (.int 1))))) (retS (cM (.bl false))) nilS))
def b2_fits : MT := (wipT [5] (ifS (notT (truM (opM andF (opM shrF (opM ixF (varM 4) (opM ixF (varM 0) (varM 5))) (opM ixF (varM 0) (varM 1))) (cM (.int 1))))) (retS (cM (.bl false))) nilS))
def m_fits : MT := (seqS (preW [5] (forM (seqI (varM 2)) (one 5) b1_fits))
    (seqS (preW [5] (forM (seqI (varM 3)) (one 5) b2_fits))
    (retS (cM (.bl true)))))
def f_fits : MF := defM 5 6 m_fits
theorem n_fits : ∀ (xs : List MV) (h : MH), (f_fits xs h).isSome = true → xs.length = 5 := fun _ _ e => defM_len e
def m_covers : MT := (seqS (setS 1 (callM f_high_masks [] (consA (varM 0) nilA)))
    (seqS (setS 2 (callM f_low_masks [] (consA (varM 0) nilA)))
    (retS (bltM tupF (consA (flsM (lcM (seqI (opM ixF (varM 0) (cM (.int 1)))) [3, 4] (unp [3, 4]) (tstM (opM eqF (opM andF (opM ixF (varM 1) (varM 3)) (opM ixF (varM 2) (varM 4))) (cM (.int 0)))) (tupM (consA (varM 3) (consA (varM 4) nilA))))) nilA)))))
def f_covers : MF := defM 1 5 m_covers
theorem n_covers : ∀ (xs : List MV) (h : MH), (f_covers xs h).isSome = true → xs.length = 1 := fun _ _ e => defM_len e
def m_cover_neighbours : MT := (seqS (setS 1 (tupM (consA (opM ixF (varM 0) (cM (.int 0))) (consA (callM f_covers [] (consA (varM 0) nilA)) nilA))))
    (seqS (setS 2 (callM f_high_masks [] (consA (varM 1) nilA)))
    (seqS (setS 3 (callM f_low_masks [] (consA (varM 1) nilA)))
    (retS (bltM tupF (consA (flsM (lcM (rng1 (consA (opM ixF (varM 0) (cM (.int 0))) nilA)) [4] (one 4) yesT (opM orF (opM ixF (varM 2) (varM 4)) (opM ixF (varM 3) (varM 4))))) nilA))))))
def f_cover_neighbours : MF := defM 1 5 m_cover_neighbours
theorem n_cover_neighbours : ∀ (xs : List MV) (h : MH), (f_cover_neighbours xs h).isSome = true → xs.length = 1 := fun _ _ e => defM_len e
def b1_apply_steps : MT := (wipT [9, 10, 11, 12] (seqS (asgS (unp [11, 12]) (varM 10))
    (seqS (ifS (orT (notT (tstM (chainM leF ltF (cM (.int 0)) (varM 11) (opM ixF (varM 0) (cM (.int 0)))))) (notT (tstM (chainM leF ltF (cM (.int 0)) (varM 12) (opM ixF (varM 1) (cM (.int 0))))))) (raiseS "BadStep" ["at"] (consA (varM 9) nilA)) nilS)
    (seqS (ifS (notT (truM (opM andF (opM shrF (opM ixF (varM 6) (opM ixF (varM 8) (varM 11))) (varM 12)) (cM (.int 1))))) (raiseS "BadStep" ["at"] (consA (varM 9) nilA)) nilS)
    (seqS (subS (varM 12) (varM 8) (varM 11))
    (ifS (notT (truM (callM f_fits [] (consA (varM 8) (consA (varM 11) (consA (opM ixF (varM 4) (varM 11)) (consA (opM ixF (varM 5) (varM 11)) (consA (varM 7) nilA)))))))) (raiseS "BadStep" ["at"] (consA (varM 9) nilA)) nilS))))))
def m_apply_steps : MT := (seqS (setS 4 (callM f_points_of [] (consA (callM f_high_masks [] (consA (varM 0) nilA)) nilA)))
    (seqS (setS 5 (callM f_points_of [] (consA (callM f_low_masks [] (consA (varM 0) nilA)) nilA)))
    (seqS (setS 6 (callM f_cover_neighbours [] (consA (varM 1) nilA)))
    (seqS (setS 7 (callM f_at_least_masks [] (consA (varM 1) nilA)))
    (seqS (setS 8 (refM (bltL lstF (consA (varM 2) nilA))))
    (seqS (preW [9, 10, 11, 12] (forM (enmI (consA (varM 3) nilA)) (unp [9, 10]) b1_apply_steps))
    (retS (bltM tupF (consA (varM 8) nilA)))))))))
def f_apply_steps : MF := cutF (defM 4 13 m_apply_steps)
theorem n_apply_steps : ∀ (xs : List MV) (h : MH), (f_apply_steps xs h).isSome = true → xs.length = 4 := cut_len fun _ _ e => defM_len e
def m_law_asked : MT := (tryS (seqS (ifS (truM (varM 4)) (retS (tupM (consA (cM (.str "told")) (consA (callKX f_apply_steps 0 4 [3, 2, 1, 0] [] nilA (consA (bltM tupF (consA (varM 3) nilA)) (consA (varM 2) (consA (opM ixF (varM 1) (cM (.int 0))) (consA (opM ixF (varM 0) (cM (.int 0))) nilA))))) nilA)))) nilS)
    (retS (tupM (consA (cM (.str "told")) (consA (callX f_apply_steps [] (consA (opM ixF (varM 0) (cM (.int 0))) (consA (opM ixF (varM 1) (cM (.int 0))) (consA (varM 2) (consA (bltM tupF (consA (varM 3) nilA)) nilA))))) nilA))))) [("BadStep", true)] 7 6 (fun nm a d => (seqS (setS 5 (orV (isE 6 a d (List.lookup nm ([("BadStep", false)] : List (Str × Bool)))) (orV (isE 6 a d (List.lookup nm ([("BadStep", false)] : List (Str × Bool)))) (orV (isE 6 a d (List.lookup nm ([("BadStep", false)] : List (Str × Bool)))) (isE 6 a d (List.lookup nm ([("BadStep", false)] : List (Str × Bool))))))))
    (retS (flsM (lstM (consA (cM (.str "step")) (consA (xfM 6 a d "at") (consA (andV (isE 6 a d (List.lookup nm ([("BadStep", true)] : List (Str × Bool)))) (andV (isE 6 a d (List.lookup nm ([("BadStep", true)] : List (Str × Bool)))) (notV (varM 5)))) nilA)))))))))
def f_law_asked : MF := cutF (defM 5 7 m_law_asked)
theorem n_law_asked : ∀ (xs : List MV) (h : MH), (f_law_asked xs h).isSome = true → xs.length = 5 := cut_len fun _ _ e => defM_len e
def b1_law : MT := (wipT [7, 8, 9, 10] (seqS (setS 8 (callM f_law_steps_of [] (consA (varM 2) (consA (varM 3) (consA (opM ixF (varM 5) (bltM lenF (consA (varM 6) nilA))) (consA (cM (.str "good")) nilA))))))
    (ifS (tstM (opM gtF (bltM lenF (consA (varM 8) nilA)) (cM (.int 0)))) (seqS (asgS (unp [9, 10]) (opM ixF (varM 8) (callM f_law_draw [] (consA (varM 1) (consA (bltM lenF (consA (varM 8) nilA)) nilA)))))
    (seqS (dropS (mthM appF (varM 5) (consA (opM addF (opM addF (sliT (opM ixF (varM 5) (bltM lenF (consA (varM 6) nilA))) noO (someO (varM 9))) (tupM (consA (varM 10) nilA))) (sliT (opM ixF (varM 5) (bltM lenF (consA (varM 6) nilA))) (someO (opM addF (varM 9) (cM (.int 1)))) noO)) nilA)))
    (dropS (mthM appF (varM 6) (consA (tupM (consA (varM 9) (consA (varM 10) nilA))) nilA))))) nilS)))
def b2_law : MT := (cutT (wipT [12, 13, 14] (seqS (setS 13 (callM f_law_draw [] (consA (varM 1) (consA (opM addF (bltM lenF (consA (varM 6) nilA)) (cM (.int 1))) nilA))))
    (seqS (setS 14 (refM (catL (flsM (catL (sliT (varM 6) noO (someO (varM 13))) (flsM (lstM (consA (callM f_law_wrong [] (consA (varM 1) (consA (varM 2) (consA (varM 3) (consA (opM ixF (varM 5) (varM 13)) nilA))))) nilA))))) (sliT (varM 6) (someO (varM 13)) noO))))
    (seqS (ifS (tstM (opM eqF (callM f_law_draw [] (consA (varM 1) (consA (cM (.int 2)) nilA))) (cM (.int 0)))) (dropS (mthM appF (varM 14) (consA (tupM (consA (bltM lenF (consA (varM 4) nilA)) (consA (cM (.int 0)) nilA))) nilA))) nilS)
    (ifS (notT (truM (callM f_law_same [] (consA (callM f_law_asked [] (consA (varM 2) (consA (varM 3) (consA (varM 4) (consA (varM 14) (consA (opM eqF (varM 12) (cM (.int 1))) nilA)))))) (consA (flsM (lstM (consA (cM (.str "step")) (consA (varM 13) (consA (cM (.bl true)) nilA))))) nilA))))) (retS (cM (.bl false))) nilS))))))
def m_law : MT := (seqS (setS 1 (callM f_law_start [] (consA (varM 0) nilA)))
    (seqS (asgS (unp [2, 3]) (callM f_law_orders [] (consA (varM 1) nilA)))
    (seqS (setS 4 (bltM tupF (consA (callM f_law_map [] (consA (varM 1) (consA (varM 2) (consA (varM 3) nilA)))) nilA)))
    (seqS (setS 5 (refM (lstM (consA (varM 4) nilA))))
    (seqS (setS 6 (refM (lstM nilA)))
    (seqS (preW [7, 8, 9, 10] (forM (rng1 (consA (callM f_law_draw [] (consA (varM 1) (consA (opM ixF (flsM (lstM (consA (cM (.int 6)) (consA (cM (.int 2)) nilA)))) (bltM intF (consA (opM gtF (bltM lenF (consA (varM 4) nilA)) (cM (.int 12))) nilA))) nilA))) nilA)) (one 7) b1_law))
    (seqS (ifS (notT (truM (callM f_law_same [] (consA (callM f_law_asked [] (consA (varM 2) (consA (varM 3) (consA (varM 4) (consA (varM 6) (consA (cM (.bl false)) nilA)))))) (consA (tupM (consA (cM (.str "told")) (consA (opM ixF (varM 5) (bltM lenF (consA (varM 6) nilA))) nilA))) nilA))))) (retS (cM (.bl false))) nilS)
    (seqS (setS 11 (callM f_law_draw [] (consA (varM 1) (consA (opM addF (bltM lenF (consA (varM 6) nilA)) (cM (.int 1))) nilA))))
    (seqS (ifS (notT (truM (callM f_law_same [] (consA (callM f_law_asked [] (consA (varM 2) (consA (varM 3) (consA (varM 4) (consA (sliT (varM 6) noO (someO (varM 11))) (consA (cM (.bl true)) nilA)))))) (consA (tupM (consA (cM (.str "told")) (consA (opM ixF (varM 5) (varM 11)) nilA))) nilA))))) (retS (cM (.bl false))) nilS)
    (seqS (preW [12, 13, 14] (forM (rng1 (consA (opM ixF (flsM (lstM (consA (cM (.int 3)) (consA (cM (.int 1)) nilA)))) (bltM intF (consA (opM gtF (bltM lenF (consA (varM 4) nilA)) (cM (.int 12))) nilA))) nilA)) (one 12) b2_law))
    (retS (cM (.bl true)))))))))))))
def f_law : MF := defM 1 15 m_law
theorem n_law : ∀ (xs : List MV) (h : MH), (f_law xs h).isSome = true → xs.length = 1 := fun _ _ e => defM_len e
end
end Mi.k13
set_option maxHeartbeats 4000000
namespace Mi.k13
open PySem L2
/-- the source: one list -/
def St (S : MH) : Prop := ∃ (cs ss : List Int) (p : Nat) (r l t : Int), S = [.lst [.fls (cs.map MV.int), nV p, .int r, .int l, .int t, .fls (ss.map MV.int)]] ∧ ss.length = cs.length ∧ cs.length ≤ 63 ∧ 0 ≤ t ∧ p ≤ cs.length
theorem St.len {S : MH} (h : St S) : S.length = 1 := by
  obtain ⟨cs, ss, p, r, l, t, e, _⟩ := h
  rw [e]
  rfl
theorem St.self {S : MH} (h : St S) : Self S := by
  obtain ⟨cs, ss, p, r, l, t, e, _⟩ := h
  subst e
  intro o ho
  rw [List.mem_singleton.mp ho]
  simp [cloO]
theorem mixed {a t : Int} {h : MH} : ∃ d : Int, f_law_mixed [.int a, .int t] h = ok (.int d) h := by
  have m1 : ∀ a : Int, mulOk a 48271 := fun a => .inr (by decide)
  have m2 : ∀ a : Int, mulOk a 69621 := fun a => .inr (by decide)
  have m3 : ∀ a : Int, mulOk a 40692 := fun a => .inr (by decide)
  have m4 : ∀ a : Int, mulOk a 16807 := fun a => .inr (by decide)
  have m5 : ∀ x : Int, mulOk (x % 2147483647) (x % 2147483647) := fun x => .inl ⟨by omega, by omega⟩
  simp [f_law_mixed, m_law_mixed, m1, m2, m3, m4, m5]
theorem draw {S os : MH} {m : Nat} (hS : St S) (hm : 0 < m) (hm2 : m < 1000000) : ∃ (d : Nat) (S' : MH), f_law_draw [.ref 0, nV m] (S ++ os) = ok (nV d) (S' ++ os) ∧ d < m ∧ St S' := by
  obtain ⟨cs, ss, p, r, l, t, e, hl, hc, ht, hp⟩ := hS
  subst e
  have nat : ∀ x : Int, ∃ d : Nat, x % (m : Int) = (d : Int) ∧ d < m := fun x => ⟨(x % (m : Int)).toNat, by
    have := Int.emod_nonneg x (show (m : Int) ≠ 0 by omega)
    omega, by
    have := Int.emod_nonneg x (show (m : Int) ≠ 0 by omega)
    have := Int.emod_lt_of_pos x (show 0 < (m : Int) by omega)
    omega⟩
  have hm3 : (m : Int) < 1073741824 := by omega
  have hl2 : cs.length ≤ lim := by unfold lim; omega
  by_cases c1 : r = 0 ∨ l = 0
  · have c1' : (r = 0) ∨ ¬ (r = 0) ∧ l = 0 := by omega
    by_cases c2 : cs.length ≤ p
    · by_cases c3 : 0 < ss.length
      · obtain ⟨i, ei, hi⟩ : ∃ i : Nat, (t + 1) % (ss.length : Int) = (i : Int) ∧ i < ss.length := ⟨((t + 1) % (ss.length : Int)).toNat, by
          have := Int.emod_nonneg (t + 1) (show (ss.length : Int) ≠ 0 by omega)
          omega, by
          have := Int.emod_nonneg (t + 1) (show (ss.length : Int) ≠ 0 by omega)
          have := Int.emod_lt_of_pos (t + 1) (show 0 < (ss.length : Int) by omega)
          omega⟩
        obtain ⟨d0, e0⟩ := mixed (a := ss[i]) (t := t + 1) (h := [MO.lst [.fls (cs.map MV.int), nV p, .int r, .int l, .int (t + 1), .fls (ss.map MV.int)]] ++ os)
        obtain ⟨d, ed, hd⟩ := nat d0
        refine ⟨d, [.lst [.fls (cs.map MV.int), nV p, .int r, .int l, .int (t + 1), .fls (ss.map MV.int)]], ?_, hd, ⟨cs, ss, p, r, l, t + 1, rfl, hl, hc, by omega, hp⟩⟩
        simp only [List.cons_append, List.nil_append] at e0 ⊢
        rcases c1' with c | ⟨c, c'⟩
        · simp [f_law_draw, m_law_draw, atI_0, atI_1, atI_2, atI_3, atI_4, atI_5, ixN_4, eqB, c, c2, c3, ei, atI_n, hi, e0, ed, hm] <;> simp_all
        · simp [f_law_draw, m_law_draw, atI_0, atI_1, atI_2, atI_3, atI_4, atI_5, ixN_4, eqB, c, c', c2, c3, ei, atI_n, hi, e0, ed, hm] <;> simp_all
      · have n0 : ss = [] := List.length_eq_zero_iff.mp (by omega)
        have n1 : cs = [] := List.length_eq_zero_iff.mp (by omega)
        subst n0
        subst n1
        obtain ⟨d0, e0⟩ := mixed (a := 0) (t := t + 1) (h := [MO.lst [.fls ([] : List MV), nV p, .int r, .int l, .int (t + 1), .fls ([] : List MV)]] ++ os)
        obtain ⟨d, ed, hd⟩ := nat d0
        refine ⟨d, [.lst [.fls [], nV p, .int r, .int l, .int (t + 1), .fls []]], ?_, hd, ⟨[], [], p, r, l, t + 1, rfl, hl, hc, by omega, hp⟩⟩
        simp only [List.cons_append, List.nil_append] at e0 ⊢
        rcases c1' with c | ⟨c, c'⟩
        · simp [f_law_draw, m_law_draw, atI_0, atI_1, atI_2, atI_3, atI_4, atI_5, ixN_4, eqB, c, c2, e0, ed, hm] <;> simp_all
        · simp [f_law_draw, m_law_draw, atI_0, atI_1, atI_2, atI_3, atI_4, atI_5, ixN_4, eqB, c, c', c2, e0, ed, hm] <;> simp_all
    · have hp2 : p < cs.length := by omega
      obtain ⟨x, ex⟩ : ∃ x, cs[p]? = some x := ⟨_, List.getElem?_eq_getElem hp2⟩
      obtain ⟨y, ey⟩ : ∃ y, ss[p]? = some y := ⟨_, List.getElem?_eq_getElem (by omega)⟩
      have c2' : ¬ ((cs.length : Int) ≤ (p : Int)) := by omega
      have pp : ((p : Int) + 1) - 1 = (p : Int) := by omega
      by_cases c3 : x < 2 ∨ x % 2 = 1
      · have c3' : (x < 2) ∨ ¬ (x < 2) ∧ x % 2 = 1 := by omega
        obtain ⟨d0, e0⟩ := mixed (a := y) (t := t + 1) (h := [MO.lst [.fls (cs.map MV.int), nV (p + 1), .int r, .int l, .int (t + 1), .fls (ss.map MV.int)]] ++ os)
        obtain ⟨d, ed, hd⟩ := nat d0
        refine ⟨d, [.lst [.fls (cs.map MV.int), nV (p + 1), .int r, .int l, .int (t + 1), .fls (ss.map MV.int)]], ?_, hd, ⟨cs, ss, p + 1, r, l, t + 1, rfl, hl, hc, by omega, hp2⟩⟩
        simp only [List.cons_append, List.nil_append, nV, Int.natCast_add, Int.cast_ofNat_Int] at e0 ⊢
        rcases c1' with c | ⟨c, c'⟩
        · rcases c3' with c4 | ⟨c4, c5⟩
          · simp [f_law_draw, m_law_draw, atI_0, atI_1, atI_2, atI_3, atI_4, atI_5, ixN_4, ixN_1, eqB, c, c2, atI_n, ex, ey, pp, e0, ed, hm, c4] <;> simp_all
          · simp [f_law_draw, m_law_draw, atI_0, atI_1, atI_2, atI_3, atI_4, atI_5, ixN_4, ixN_1, eqB, c, c2, atI_n, ex, ey, pp, e0, ed, hm, c4, c5] <;> simp_all
        · rcases c3' with c4 | ⟨c4, c5⟩
          · simp [f_law_draw, m_law_draw, atI_0, atI_1, atI_2, atI_3, atI_4, atI_5, ixN_4, ixN_1, eqB, c, c', c2, atI_n, ex, ey, pp, e0, ed, hm, c4] <;> simp_all
          · simp [f_law_draw, m_law_draw, atI_0, atI_1, atI_2, atI_3, atI_4, atI_5, ixN_4, ixN_1, eqB, c, c', c2, atI_n, ex, ey, pp, e0, ed, hm, c4, c5] <;> simp_all
      · have c4 : ¬ x < 2 := by omega
        have c5 : x % 2 = 0 := by omega
        obtain ⟨d, ed, hd⟩ := nat (x / 2)
        refine ⟨d, [.lst [.fls (cs.map MV.int), nV (p + 1), .int (x / 2 / (m : Int)), .int 59, .int (t + 1), .fls (ss.map MV.int)]], ?_, hd, ⟨cs, ss, p + 1, _, _, t + 1, rfl, hl, hc, by omega, hp2⟩⟩
        simp only [List.cons_append, List.nil_append, nV, Int.natCast_add, Int.cast_ofNat_Int]
        rcases c1' with c | ⟨c, c'⟩
        · simp [f_law_draw, m_law_draw, atI_0, atI_1, atI_2, atI_3, atI_4, atI_5, ixN_4, ixN_1, ixN_2, ixN_3, eqB, c, c2, atI_n, ex, ey, pp, ed, hm, c4, c5, hm3] <;> simp_all
        · simp [f_law_draw, m_law_draw, atI_0, atI_1, atI_2, atI_3, atI_4, atI_5, ixN_4, ixN_1, ixN_2, ixN_3, eqB, c, c', c2, atI_n, ex, ey, pp, ed, hm, c4, c5, hm3] <;> simp_all
  · have c2 : ¬ r = 0 := by omega
    have c3 : ¬ l = 0 := by omega
    obtain ⟨d, ed, hd⟩ := nat r
    refine ⟨d, [.lst [.fls (cs.map MV.int), nV p, .int (r / (m : Int)), .int (l - 1), .int (t + 1), .fls (ss.map MV.int)]], ?_, hd, ⟨cs, ss, p, _, _, t + 1, rfl, hl, hc, by omega, hp⟩⟩
    simp only [List.cons_append, List.nil_append]
    simp [f_law_draw, m_law_draw, atI_0, atI_1, atI_2, atI_3, atI_4, atI_5, ixN_4, ixN_1, ixN_2, ixN_3, eqB, c2, c3, ed, hm, hm3]
theorem start {ns : List Int} {h : MH} (hn : ns.length ≤ 63) : ∃ S, f_law_start [.frz (ns.map MV.int)] [] = ok (.ref 0) S ∧ St S := by
  have l1 : ns.length ≤ lim := by unfold lim; omega
  have e1 := lc_y (i := 2) (f := MV.int) (el := bltM intF (consA (varM 2) nilA)) (s0 := [some (.frz (ns.map MV.int)), none, none]) (h := []) MV.int (xs := ns) l1 fun x _ => by simp
  have e2 := lc_y (i := 2) (f := MV.int) (el := opM modF (bltM intF (consA (varM 2) nilA)) (cM (.int 2147483629))) (s0 := [some (.frz (ns.map MV.int)), some (.fls (ns.map MV.int)), none]) (h := []) (fun x => MV.int (x % 2147483629)) (xs := ns) l1 fun x _ => by simp
  refine ⟨[.lst [.fls (ns.map MV.int), nV 0, .int 0, .int 0, .int 0, .fls ((ns.map fun x => x % 2147483629).map MV.int)]], ?_, ⟨ns, _, 0, 0, 0, 0, rfl, by simp, hn, by omega, by omega⟩⟩
  simp [f_law_start, m_law_start, e1, e2, lim]
end Mi.k13
set_option maxHeartbeats 4000000
namespace Mi.k13
open PySem L2
theorem ns_get {xs : List Nat} {i : Nat} : (xs.map nV)[i]? = xs[i]?.map nV := List.getElem?_map ..
/-- a drawn one of a list -/
theorem draw_of {S os : MH} {es : List Nat} (hS : St S) (h0 : 0 < es.length) (h1 : es.length ≤ 64) : ∃ (d : Nat) (x : Nat) (S' : MH), f_law_draw [.ref 0, .int (es.length : Int)] (S ++ os) = ok (nV d) (S' ++ os) ∧ es[d]? = some x ∧ x ∈ es ∧ St S' := by
  obtain ⟨d, S', e, hd, hS'⟩ := draw (os := os) (m := es.length) hS h0 (by omega)
  exact ⟨d, es[d], S', e, List.getElem?_eq_getElem hd, List.getElem_mem hd, hS'⟩
theorem lows {S os : MH} {es : List Nat} {kind : Nat} (hS : St S) (hk : kind ≤ 5) (h1 : es.length ≤ 64) : ∃ (xs : List Nat) (S' : MH), f_law_lows [.ref 0, .fls (es.map nV), .int (kind : Int)] (S ++ os) = ok (.fls (xs.map nV)) (S' ++ os) ∧ (∀ x ∈ xs, x ∈ es) ∧ St S' := by
  have hl : es.length ≤ lim := by unfold lim; omega
  have l1 : 1 ≤ lim := by unfold lim; omega
  by_cases h0 : es.length = 0
  · have : es = [] := List.length_eq_zero_iff.mp h0
    subst this
    exact ⟨[], S, by simp [f_law_lows, m_law_lows, eqB], (fun x hx => nomatch hx), hS⟩
  have h0' : ¬ es = [] := fun z => h0 (by rw [z]; rfl)
  obtain ⟨d, x, S1, e1, ex, mx, hS1⟩ := draw_of (os := os) hS (by omega) h1
  by_cases k1 : kind < 2
  · obtain ⟨d2, S2, e2, hd2, hS2⟩ := draw (os := os) (m := 6) hS1 (by omega) (by omega)
    have e2' : f_law_draw [.ref 0, .int 6] (S1 ++ os) = ok (.int (d2 : Int)) (S2 ++ os) := e2
    rcases (show kind = 0 ∨ kind = 1 by omega) with k | k <;> subst k
    · by_cases q : (4 : Int) ≤ (d2 : Int)
      · refine ⟨[x], S2, ?_, fun z hz => by rw [List.mem_singleton.mp hz]; exact mx, hS2⟩
        simp [f_law_lows, m_law_lows, eqB, hl, h0', e1, atI_n, ex, e2', l1, atI_0, q, lim]
      · refine ⟨[], S2, ?_, (fun z hz => nomatch hz), hS2⟩
        simp [f_law_lows, m_law_lows, eqB, hl, h0', e1, atI_n, ex, e2', l1, atI_0, q, lim]
    · by_cases q : (1 : Int) ≤ (d2 : Int)
      · refine ⟨[x], S2, ?_, fun z hz => by rw [List.mem_singleton.mp hz]; exact mx, hS2⟩
        simp [f_law_lows, m_law_lows, eqB, hl, h0', e1, atI_n, ex, e2', l1, atI_1, q, lim]
      · refine ⟨[], S2, ?_, (fun z hz => nomatch hz), hS2⟩
        simp [f_law_lows, m_law_lows, eqB, hl, h0', e1, atI_n, ex, e2', l1, atI_1, q, lim]
  by_cases k2 : kind = 2
  · subst k2
    obtain ⟨acc, ⟨xs, S2⟩, e, e3, hx, hS2⟩ := lc_m (g := one 4) (cd := tstM (opM eqF (callM f_law_draw [] (consA (varM 0) (consA (cM (.int 2)) nilA))) (cM (.int 0)))) (el := varM 4) (s0 := [some (.ref 0), some (.fls (es.map nV)), some (.int 2), some (nV x), none, none]) (f := nV) (xs := es.take 3)
      (H := fun a : List Nat × MH => a.2 ++ os) (fun i acc a => acc = a.1.map nV ∧ (∀ x ∈ a.1, x ∈ es) ∧ a.1.length ≤ i ∧ St a.2) (a0 := ([], S1)) ⟨rfl, (fun x hx => nomatch hx), Nat.le_refl _, hS1⟩ fun i y acc a hy ⟨a1, a2, a3, a4⟩ => by
        obtain ⟨d2, S2, e2, hd2, hS2⟩ := draw (os := os) (m := 2) a4 (by omega) (by omega)
        have e2' : f_law_draw [.ref 0, .int 2] (a.2 ++ os) = ok (.int (d2 : Int)) (S2 ++ os) := e2
        have hi : i < 3 := by
          have := (List.getElem?_eq_some_iff.mp hy).1
          rw [List.length_take] at this
          omega
        refine ⟨_, rfl, decide (d2 = 0), (a.1, S2), ?_, fun c => ⟨nV y, (a.1 ++ [y], S2), ?_, ?_, ?_, ?_, ?_, hS2⟩, fun c => ⟨a1, a2, Nat.le_succ_of_le a3, hS2⟩⟩
        · simp [e2', eqB]
        · simp
        · rw [a1, List.length_map]
          unfold lim
          omega
        · rw [a1]
          simp
        · intro z hz
          rcases List.mem_append.mp hz with w | w
          · exact a2 z w
          · rw [List.mem_singleton.mp w]
            exact List.mem_of_mem_take (List.mem_of_getElem? hy)
        · rw [List.length_append]
          show a.1.length + 1 ≤ i + 1
          omega
    refine ⟨xs, S2, ?_, hx, hS2.2⟩
    have ct : cutM (es.map nV) none (some 3) = (es.take 3).map nV := by
      rw [show (3 : Int) = ((3 : Nat) : Int) from rfl, cut_take, List.map_take]
    rw [e3, List.map_take] at e
    dsimp only at e
    rw [List.map_take] at ct
    simp [f_law_lows, m_law_lows, eqB, hl, h0', e1, atI_n, ex, ct, e]
  by_cases k3 : kind = 3
  · subst k3
    refine ⟨es.drop (es.length - 1), S1, ?_, fun z hz => List.mem_of_mem_drop hz, hS1⟩
    have ct : cutM (es.map nV) (some (-1)) none = (es.drop (es.length - 1)).map nV := by
      rw [cut_last, List.length_map, List.map_drop]
    simp [f_law_lows, m_law_lows, eqB, hl, h0', e1, atI_n, ex, ct]
  obtain ⟨w, hw⟩ : ∃ w : Nat, kind = w + 2 := ⟨kind - 2, by omega⟩
  have ew : (kind : Int) - 2 = (w : Int) := by omega
  obtain ⟨d2, S2, e2, hd2, hS2⟩ := draw (os := os) (m := w) hS1 (by omega) (by omega)
  obtain ⟨acc, ⟨xs, S3⟩, e, e3, hx, hx2, hS3⟩ := lc_m (g := one 5) (cd := yesT) (el := opM ixF (varM 1) (callM f_law_draw [] (consA (varM 0) (consA (bltM lenF (consA (varM 1) nilA)) nilA)))) (s0 := [some (.ref 0), some (.fls (es.map nV)), some (nV kind), some (nV x), none, none]) (f := nV) (xs := List.range d2)
    (H := fun a : List Nat × MH => a.2 ++ os) (fun i acc a => acc = a.1.map nV ∧ (∀ x ∈ a.1, x ∈ es) ∧ a.1.length ≤ i ∧ St a.2) (a0 := ([], S2)) ⟨rfl, (fun x hx => nomatch hx), Nat.le_refl _, hS2⟩ fun i y acc a hy ⟨a1, a2, a3, a4⟩ => by
      obtain ⟨d3, x3, S3, e3, ex3, mx3, hS3⟩ := draw_of (os := os) a4 (by omega) h1
      have hi : i < d2 := by
        have := (List.getElem?_eq_some_iff.mp hy).1
        simpa using this
      refine ⟨_, rfl, true, a, rfl, fun c => ⟨nV x3, (a.1 ++ [x3], S3), ?_, ?_, ?_, ?_, ?_, hS3⟩, fun z => nomatch z⟩
      · simp [e3, atI_n, ex3]
      · rw [a1, List.length_map]
        unfold lim
        omega
      · rw [a1]
        simp
      · intro z hz
        rcases List.mem_append.mp hz with w | w
        · exact a2 z w
        · rw [List.mem_singleton.mp w]
          exact mx3
      · rw [List.length_append]
        show a.1.length + 1 ≤ i + 1
        omega
  have hx2' : xs.length ≤ d2 := by simpa using hx2
  refine ⟨x :: xs, S3, ?_, fun z hz => ?_, hS3⟩
  · have k1' : ¬ ((kind : Int) < 2) := by omega
    have k2' : ¬ ((kind : Int) = 2) := by omega
    have k3' : ¬ ((kind : Int) = 3) := by omega
    have l2 : 1 + xs.length ≤ lim := by unfold lim; omega
    have q1 : (d2 : Int) ≤ 1000000 := by omega
    have q2 : (-1000000 : Int) ≤ d2 := by omega
    rw [e3] at e
    have e' := e
    rw [← run_m] at e'
    simp [f_law_lows, m_law_lows, eqB, hl, h0', e1, atI_n, ex, k1', k2', k3', ew, e2, q1, q2, e', l1, l2]
  · rcases List.mem_cons.mp hz with e | e
    · rw [e]
      exact mx
    · exact hx z e
end Mi.k13
set_option maxHeartbeats 4000000
namespace Mi.k13
open PySem L2
theorem ins_perm {α : Type} {L : List α} {d : Nat} {k : α} : (L.take d ++ [k] ++ L.drop d).Perm (L ++ [k]) := by
  rw [List.append_assoc]
  refine (List.perm_append_comm_assoc (L.take d) [k] (L.drop d)).trans ?_
  rw [List.take_append_drop]
  exact List.perm_append_comm
/-- the line: all points in a drawn sequence -/
theorem line_ {S os : MH} {n p : Nat} {K : MV} (hS : St S) (hn : n ≤ 64) (hp : p = 1 + os.length) : ∃ (L : List Nat) (S' : MH),
    forS (turnM (one 4) b1_law_order) ((List.range n).map nV) [some (.ref 0), some (nV n), some K, some (.ref p), none, none, none, none, none, none, none, none, none] (S ++ (os ++ [.lst []])) =
      some (.nx [some (.ref 0), some (nV n), some K, some (.ref p), none, none, none, none, none, none, none, none, none] (S' ++ (os ++ [.lst (L.map nV)]))) ∧ L.Perm (List.range n) ∧ St S' := by
  obtain ⟨⟨L, S1⟩, e, h1, h2⟩ := for_m (f := nV) (bd := turnM (one 4) b1_law_order) (xs := List.range n) (fun _ : List Nat × MH => [some (.ref 0), some (nV n), some K, some (.ref p), none, none, none, none, none, none, none, none, none])
    (fun a => a.2 ++ (os ++ [.lst (a.1.map nV)])) (fun i a => a.1.Perm (List.range i) ∧ St a.2) (a0 := ([], S)) ⟨List.Perm.refl _, hS⟩ fun i x a hx ⟨h1, h2⟩ => by
      obtain ⟨hi, ex⟩ := List.getElem?_eq_some_iff.mp hx
      rw [List.getElem_range] at ex
      subst ex
      have hi' : i < n := by simpa using hi
      have len : a.1.length = i := by
        have := h1.length_eq
        simpa using this
      obtain ⟨d, S2, e2, hd, hS2⟩ := draw (os := os ++ [.lst (a.1.map nV)]) (m := i + 1) h2 (by omega) (by omega)
      have e2' : f_law_draw [.ref 0, .int ((i : Int) + 1)] (a.2 ++ (os ++ [.lst (a.1.map nV)])) = ok (.int (d : Int)) (S2 ++ (os ++ [.lst (a.1.map nV)])) := by
        rw [show ((i : Int) + 1) = ((i + 1 : Nat) : Int) by omega]
        exact e2
      refine ⟨(a.1.take d ++ [i] ++ a.1.drop d, S2), .inl ?_, ?_, hS2⟩
      · have a1 := at1 (t := []) (o := .lst (a.1.map nV)) (h2.len) hp
        have a2 := at1 (t := []) (o := .lst (a.1.map nV)) (hS2.len) hp
        have a3 := st1 (t := []) (o := .lst (a.1.map nV)) (u := .lst ((a.1.take d ++ [i] ++ a.1.drop d).map nV)) (hS2.len) hp
        simp only [List.map_append, List.map_cons, List.map_nil, List.map_take, List.map_drop, List.append_assoc] at a3
        have l1 : a.1.length < lim := by unfold lim; omega
        have l2 : (d : Int) ≤ 1000000 := by omega
        simp only [List.singleton_append, ← List.map_drop, ← List.map_take] at a3
        simp [b1_law_order, a1, e2', a2, l1, l2]
        simpa using a3
      · exact ins_perm.trans (by rw [List.range_succ]; exact h1.append_right _)
  rw [List.length_range] at h1
  exact ⟨L, S1, e, h1, h2⟩
/-! ### the table -/
def adA (y a : Nat) (g : Nat → Nat → Bool) : Nat → Nat → Bool := fun u v => g u v || (v == y && (u == a || g u a))
def adX (y a j : Nat) (g : Nat → Nat → Bool) : Nat → Nat → Bool := fun u v => g u v || (v == y && decide (u < j) && (u == a || g u a))
def sO (n p k y : Nat) (K : MV) (T : Nat) (kd : Nat) (x7 x9 : Option MV) : MS := [some (.ref 0), some (nV n), some K, some (.ref p), some (nV k), some (.int (kd : Int)), some (.ref T), x7, some (nV y), x9, none, none, none]
theorem b2_ {pre : MH} {n p k y a b kd : Nat} {K : MV} {g : Nat → Nat → Bool} (hb : pre.length = b) (hn : n ≤ 64) (ha : a < n) (hy : y < n) (hay : a ≠ y) :
    forS (turnM (one 7) b2_law_order) ((List.range n).map nV) (sO n p k y K (b + n) kd none (some (nV a))) (pre ++ matH b (rowsB n g)) = some (.nx (sO n p k y K (b + n) kd none (some (nV a))) (pre ++ matH b (rowsB n (adA y a g)))) := by
  obtain ⟨w, e, hw⟩ := for_m (f := nV) (bd := turnM (one 7) b2_law_order) (xs := List.range n) (fun _ : Nat → Nat → Bool => sO n p k y K (b + n) kd none (some (nV a))) (fun w => pre ++ matH b (rowsB n w))
    (fun i w => w = adX y a i g) (a0 := adX y a 0 g) rfl fun i x w hx hw => by
      obtain ⟨hi, ex⟩ := List.getElem?_eq_some_iff.mp hx
      rw [List.getElem_range] at ex
      subst ex
      subst hw
      have hi' : i < n := by simpa using hi
      have t0 := tab_top (f := adX y a i g) (n := n) hb
      have t1 := tab_row (f := adX y a i g) hb hi'
      have t2 := refs_get (b := b) hi'
      have t3 := rowB_get (c := adX y a i g i) ha
      have t5 : (rowB n (adX y a i g i)).length = n := rowB_len
      have e0 : adX y a i g i a = g i a := by
        unfold adX
        rw [decide_eq_false (Nat.lt_irrefl _)]
        simp
      rw [e0] at t3
      refine ⟨adX y a (i + 1) g, .inl ?_, rfl⟩
      by_cases c : i = a ∨ g i a = true
      · have t4 := tab_set (f := adX y a i g) (c := fun j => if j = y then true else adX y a i g i j) hb hi'
        have eg : rowsB n (fun u => if u = i then (fun j => if j = y then true else adX y a i g i j) else adX y a i g u) = rowsB n (adX y a (i + 1) g) := rowsB_congr fun u v hu hv => by
          by_cases q : u = i
          · subst q
            rw [if_pos rfl]
            unfold adX
            by_cases q2 : v = y
            · subst q2
              have : (u == a || g u a) = true := by simpa using c
              simp [this]
            · simp [q2]
          · rw [if_neg q]
            unfold adX
            have : decide (u < i + 1) = decide (u < i) := by
              by_cases z : u < i
              · rw [decide_eq_true z, decide_eq_true (show u < i + 1 by omega)]
              · rw [decide_eq_false z, decide_eq_false (show ¬ u < i + 1 by omega)]
            rw [this]
        rw [eg] at t4
        have t6 := rowB_set (n := n) (y := y) (c := adX y a i g i) (v := true)
        rw [← t6] at t4
        rcases c with c | c
        · subst c
          simp [sO, b2_law_order, eqB, t0, atI_n, t2, t1, t5, ixN_n, hy, t4]
        · by_cases c2 : i = a
          · subst c2
            simp [sO, b2_law_order, eqB, t0, atI_n, t2, t1, t5, ixN_n, hy, t4]
          · have c3 : ¬ ((i : Int) = (a : Int)) := by omega
            simp [sO, b2_law_order, eqB, c3, t0, atI_n, t2, t1, t3, c, t5, ixN_n, hy, t4]
      · have c1 : ¬ ((i : Int) = (a : Int)) := fun z => c (.inl (by omega))
        have c2 : g i a = false := by
          cases q : g i a with
          | false => rfl
          | true => exact absurd (.inr q) c
        rw [c2] at t3
        have eg : rowsB n (adX y a i g) = rowsB n (adX y a (i + 1) g) := rowsB_congr fun u v hu hv => by
          unfold adX
          by_cases q : u = i
          · subst q
            have : (u == a || g u a) = false := by
              rw [c2, Bool.or_false, beq_eq_false_iff_ne]
              omega
            rw [this, Bool.and_false, Bool.and_false]
          · have : decide (u < i + 1) = decide (u < i) := by
              by_cases z : u < i
              · rw [decide_eq_true z, decide_eq_true (show u < i + 1 by omega)]
              · rw [decide_eq_false z, decide_eq_false (show ¬ u < i + 1 by omega)]
            rw [this]
        rw [← eg]
        simp [sO, b2_law_order, eqB, c1, t0, atI_n, t2, t1, t3]
  rw [List.length_range] at hw
  subst hw
  have e0 : rowsB n (adX y a 0 g) = rowsB n g := rowsB_congr fun u v _ _ => by
    unfold adX
    simp
  have e1 : rowsB n (adX y a n g) = rowsB n (adA y a g) := rowsB_congr fun u v hu _ => by
    unfold adX adA
    simp [hu]
  rw [e0, e1] at e
  exact e
theorem b3_ {pre : MH} {n p k y b kd : Nat} {K : MV} {xs : List Nat} (hb : pre.length = b) (hn : n ≤ 64) (hy : y < n) (hx : ∀ a ∈ xs, a < n ∧ a ≠ y) : ∀ {g : Nat → Nat → Bool},
    forS (turnM (one 9) b3_law_order) (xs.map nV) (sO n p k y K (b + n) kd none none) (pre ++ matH b (rowsB n g)) = some (.nx (sO n p k y K (b + n) kd none none) (pre ++ matH b (rowsB n (xs.foldl (fun g a => adA y a g) g)))) := by
  intro g
  have := (for_fold (f := nV) (bd := turnM (one 9) b3_law_order) (xs := xs) (i0 := 0) (a0 := g) (fun _ : Nat → Nat → Bool => sO n p k y K (b + n) kd none none) (fun w => pre ++ matH b (rowsB n w)) (fun g a => adA y a g) (fun _ _ => True) trivial fun i x w hx' _ => by
    obtain ⟨h1, h2⟩ := hx x (List.mem_of_getElem? hx')
    have e := b2_ (p := p) (k := k) (kd := kd) (K := K) (g := w) hb hn h1 hy h2
    unfold sO at e
    refine ⟨?_, trivial⟩
    have q1 : (n : Int) ≤ 1000000 := by omega
    have q2 : (-1000000 : Int) ≤ n := by omega
    simp only [nV] at e
    rw [← run_m] at e
    simp [sO, b3_law_order, q1, q2, e]).1
  exact this
theorem any_congr {α : Type} {p q : α → Bool} : ∀ {xs : List α}, (∀ b ∈ xs, p b = q b) → xs.any p = xs.any q
  | [], _ => rfl
  | c :: cs, h => by
    rw [List.any_cons, List.any_cons, h c (List.mem_cons_self ..), any_congr fun b hb => h b (List.mem_cons_of_mem _ hb)]
theorem ads_eq {y : Nat} {xs : List Nat} (hx : ∀ a ∈ xs, a ≠ y) : ∀ {g : Nat → Nat → Bool} {u v : Nat}, (xs.foldl (fun g a => adA y a g) g) u v = (g u v || (v == y && xs.any fun a => u == a || g u a)) := by
  induction xs with
  | nil =>
    intro g u v
    simp
  | cons a xs ih =>
    intro g u v
    rw [List.foldl_cons, ih fun b hb => hx b (List.mem_cons_of_mem _ hb), List.any_cons]
    have e : (xs.any fun b => u == b || adA y a g u b) = xs.any fun b => u == b || g u b := by
      have : ∀ b ∈ xs, (u == b || adA y a g u b) = (u == b || g u b) := fun b hb => by
        have hb' := hx b (List.mem_cons_of_mem _ hb)
        show (u == b || (g u b || (b == y && (u == a || g u a)))) = _
        rw [beq_eq_false_iff_ne.mpr hb', Bool.false_and, Bool.or_false]
      exact any_congr this
    rw [e]
    show ((g u v || (v == y && (u == a || g u a))) || _) = _
    cases g u v <;> cases (v == y) <;> cases (u == a) <;> cases g u a <;> rfl
/-- the table as far as the first k points of the line -/
structure OrI (L : List Nat) (k : Nat) (g : Nat → Nat → Bool) : Prop where
  ix : ∀ x y, g x y = true → ∃ i j, i < j ∧ j < k ∧ L[i]? = some x ∧ L[j]? = some y
  tr : ∀ x y z, g x y = true → g y z = true → g x z = true
theorem nd_at {L : List Nat} (hd : L.Nodup) {i j x : Nat} (a : L[i]? = some x) (b : L[j]? = some x) : i = j := by
  exact nd_ix hd a b
theorem OrI.step {L : List Nat} {k y : Nat} {g : Nat → Nat → Bool} {xs : List Nat} (hd : L.Nodup) (h : OrI L k g) (hy : L[k]? = some y) (hx : ∀ a ∈ xs, a ∈ L.take k) : OrI L (k + 1) (xs.foldl (fun g a => adA y a g) g) := by
  have ne : ∀ a ∈ xs, a ≠ y := fun a ha e => by
    obtain ⟨i, hi⟩ := List.getElem?_of_mem (hx a ha)
    have h1 := (List.getElem?_eq_some_iff.mp hi).1
    rw [List.length_take] at h1
    rw [List.getElem?_take_of_lt (by omega), e] at hi
    have := nd_at hd hi hy
    omega
  have at_ : ∀ a ∈ xs, ∃ i, i < k ∧ L[i]? = some a := fun a ha => by
    obtain ⟨i, hi⟩ := List.getElem?_of_mem (hx a ha)
    have h1 := (List.getElem?_eq_some_iff.mp hi).1
    rw [List.length_take] at h1
    exact ⟨i, by omega, by rw [List.getElem?_take_of_lt (by omega)] at hi; exact hi⟩
  have no : ∀ x, g x y = false := fun x => by
    cases c : g x y with
    | false => rfl
    | true =>
      obtain ⟨i, j, h1, h2, h3, h4⟩ := h.ix _ _ c
      have := nd_at hd h4 hy
      omega
  have no2 : ∀ x, g y x = false := fun x => by
    cases c : g y x with
    | false => rfl
    | true =>
      obtain ⟨i, j, h1, h2, h3, h4⟩ := h.ix _ _ c
      have := nd_at hd h3 hy
      omega
  have split : ∀ u v, (xs.foldl (fun g a => adA y a g) g) u v = true → g u v = true ∨ v = y ∧ ∃ a ∈ xs, u = a ∨ g u a = true := fun u v e => by
    rw [ads_eq ne, Bool.or_eq_true, Bool.and_eq_true, beq_iff_eq, List.any_eq_true] at e
    rcases e with e | ⟨e, a, ha, e2⟩
    · exact .inl e
    · rw [Bool.or_eq_true, beq_iff_eq] at e2
      exact .inr ⟨e, a, ha, e2⟩
  have mk : ∀ u, (∃ a ∈ xs, u = a ∨ g u a = true) → (xs.foldl (fun g a => adA y a g) g) u y = true := fun u ⟨a, ha, e⟩ => by
    rw [ads_eq ne, Bool.or_eq_true, Bool.and_eq_true, List.any_eq_true]
    exact .inr ⟨beq_self_eq_true _, a, ha, by rw [Bool.or_eq_true, beq_iff_eq]; exact e⟩
  have keep : ∀ u v, g u v = true → (xs.foldl (fun g a => adA y a g) g) u v = true := fun u v e => by
    rw [ads_eq ne, e]
    rfl
  refine ⟨fun u v e => ?_, fun u z v e1 e2 => ?_⟩
  · rcases split u v e with e | ⟨e, a, ha, e2⟩
    · obtain ⟨i, j, h1, h2, h3, h4⟩ := h.ix _ _ e
      exact ⟨i, j, h1, by omega, h3, h4⟩
    · subst e
      rcases e2 with e2 | e2
      · subst e2
        obtain ⟨i, h1, h2⟩ := at_ u ha
        exact ⟨i, k, h1, by omega, h2, hy⟩
      · obtain ⟨i, j, h1, h2, h3, h4⟩ := h.ix _ _ e2
        exact ⟨i, k, by omega, by omega, h3, hy⟩
  · have zy : z ≠ y := fun q => by
      subst q
      rcases split z v e2 with e | ⟨e, a, ha, e3⟩
      · rw [no2] at e
        cases e
      · rcases e3 with e3 | e3
        · exact ne a ha e3.symm
        · rw [no2] at e3
          cases e3
    have e1' : g u z = true := by
      rcases split u z e1 with e | ⟨e, _⟩
      · exact e
      · exact absurd e zy
    rcases split z v e2 with e | ⟨e, a, ha, e3⟩
    · exact keep _ _ (h.tr _ _ _ e1' e)
    · subst e
      refine mk u ⟨a, ha, .inr ?_⟩
      rcases e3 with e3 | e3
      · rw [← e3]
        exact e1'
      · exact h.tr _ _ _ e1' e3
theorem OrI.ord {L : List Nat} {n : Nat} {g : Nat → Nat → Bool} (hp : L.Perm (List.range n)) (h : OrI L n g) : SOrd n g := by
  have hd : L.Nodup := hp.nodup_iff.mpr List.nodup_range
  have lt : ∀ {i x : Nat}, L[i]? = some x → x < n := fun e => List.mem_range.mp (hp.mem_iff.mp (List.mem_of_getElem? e))
  refine ⟨⟨fun x => L.idxOf x, fun x y e => ?_⟩, fun x y e => ?_, h.tr⟩
  · obtain ⟨i, j, h1, h2, h3, h4⟩ := h.ix _ _ e
    have ei : L.idxOf x = i := nd_at hd (by rw [List.getElem?_eq_getElem (List.idxOf_lt_length_of_mem (List.mem_of_getElem? h3)), List.getElem_idxOf]) h3
    have ej : L.idxOf y = j := nd_at hd (by rw [List.getElem?_eq_getElem (List.idxOf_lt_length_of_mem (List.mem_of_getElem? h4)), List.getElem_idxOf]) h4
    show L.idxOf x < L.idxOf y
    omega
  · obtain ⟨i, j, h1, h2, h3, h4⟩ := h.ix _ _ e
    exact ⟨lt h3, lt h4⟩
end Mi.k13
set_option maxHeartbeats 4000000
namespace Mi.k13
open PySem L2
def nearV (n : Nat) (f : Nat → Nat → Bool) : MV := .fls ((List.range n).map fun x => .fls ((fib n fun y => f x y || f y x).map nV))
/-- what _law_order gives: an order, its table, a line of its points, what is near each -/
def owV (n : Nat) (f : Nat → Nat → Bool) (L : List Nat) : MV := .tup [ordV n (prs n f), matV n n f, .fls (L.map nV), nearV n f]
@[simp] theorem clo_near {k n : Nat} {f : Nat → Nat → Bool} : cloV k (nearV n f) = true := cloL_map fun x => clo_ns
@[simp] theorem clo_ow {k n : Nat} {f : Nat → Nat → Bool} {L : List Nat} : cloV k (owV n f L) = true := by simp [owV]
theorem b4_ {S os : MH} {n p kd : Nat} {K : MV} {L : List Nat} (hS : St S) (hn : n ≤ 64) (hp : p = 1 + os.length) (hL : L.Perm (List.range n)) (hk : kd ≤ 5) : ∃ (g : Nat → Nat → Bool) (S' : MH),
    forS (turnM (one 4) b4_law_order) ((List.range n).map nV) [some (.ref 0), some (nV n), some K, some (.ref p), none, some (.int (kd : Int)), some (.ref (p + 1 + n)), none, none, none, none, none, none] (S ++ (os ++ (.lst (L.map nV) :: matH (p + 1) (rowsB n fun _ _ => false)))) =
      some (.nx [some (.ref 0), some (nV n), some K, some (.ref p), none, some (.int (kd : Int)), some (.ref (p + 1 + n)), none, none, none, none, none, none] (S' ++ (os ++ (.lst (L.map nV) :: matH (p + 1) (rowsB n g))))) ∧ SOrd n g ∧ OrI L n g ∧ St S' := by
  have hd : L.Nodup := hL.nodup_iff.mpr List.nodup_range
  have hlen : L.length = n := by simpa using hL.length_eq
  have hlt : ∀ x ∈ L, x < n := fun x hx => List.mem_range.mp (hL.mem_iff.mp hx)
  obtain ⟨⟨g, S1⟩, e, h1, h2⟩ := for_m (f := nV) (bd := turnM (one 4) b4_law_order) (xs := List.range n) (fun _ : (Nat → Nat → Bool) × MH => [some (.ref 0), some (nV n), some K, some (.ref p), none, some (.int (kd : Int)), some (.ref (p + 1 + n)), none, none, none, none, none, none])
    (fun a => a.2 ++ (os ++ (.lst (L.map nV) :: matH (p + 1) (rowsB n a.1)))) (fun i a => OrI L i a.1 ∧ St a.2) (a0 := (fun _ _ => false, S)) ⟨⟨fun _ _ z => (nomatch z), fun _ _ _ z => (nomatch z)⟩, hS⟩ fun i x a hx ⟨h1, h2⟩ => by
      obtain ⟨hi, ex⟩ := List.getElem?_eq_some_iff.mp hx
      rw [List.getElem_range] at ex
      subst ex
      have hi' : i < n := by simpa using hi
      obtain ⟨y, ey⟩ : ∃ y, L[i]? = some y := ⟨_, List.getElem?_eq_getElem (by omega)⟩
      have hy := hlt y (List.mem_of_getElem? ey)
      obtain ⟨xs, S2, e2, mx, hS2⟩ := lows (os := os ++ (.lst (L.map nV) :: matH (p + 1) (rowsB n a.1))) (es := L.take i) h2 hk (by rw [List.length_take]; omega)
      have hb : (S2 ++ (os ++ [MO.lst (L.map nV)])).length = p + 1 := by
        simp [hS2.len]
        omega
      have e3 := b3_ (p := p) (k := i) (kd := kd) (K := K) (g := a.1) (xs := xs) hb hn hy fun z hz => ⟨hlt z (List.mem_of_mem_take (mx z hz)), fun q => by
        obtain ⟨j, hj⟩ := List.getElem?_of_mem (mx z hz)
        have q1 := (List.getElem?_eq_some_iff.mp hj).1
        rw [List.length_take] at q1
        rw [List.getElem?_take_of_lt (by omega), q] at hj
        have := nd_ix hd hj ey
        omega⟩
      have a1 := at1 (t := matH (p + 1) (rowsB n a.1)) (o := .lst (L.map nV)) h2.len hp
      have a2 := at1 (t := matH (p + 1) (rowsB n a.1)) (o := .lst (L.map nV)) hS2.len hp
      have ct : cutM (L.map nV) none (some (i : Int)) = (L.take i).map nV := by rw [cut_take, List.map_take]
      have s2 : (S2 ++ (os ++ [MO.lst (L.map nV)])) ++ matH (p + 1) (rowsB n a.1) = S2 ++ (os ++ (.lst (L.map nV) :: matH (p + 1) (rowsB n a.1))) := by simp
      have s3 : (S2 ++ (os ++ [MO.lst (L.map nV)])) ++ matH (p + 1) (rowsB n (xs.foldl (fun g a => adA y a g) a.1)) = S2 ++ (os ++ (.lst (L.map nV) :: matH (p + 1) (rowsB n (xs.foldl (fun g a => adA y a g) a.1)))) := by simp
      rw [s2, s3] at e3
      refine ⟨(xs.foldl (fun g a => adA y a g) a.1, S2), .inl ?_, h1.step hd ey mx, hS2⟩
      unfold sO at e3
      rw [List.map_take] at ct e2
      simp [b4_law_order, a1, atI_n, ey, ct, e2, e3]
  rw [List.length_range] at h1
  exact ⟨g, S1, e, h1.ord hL, h1, h2⟩
/-- what is known of it -/
structure Ow (n : Nat) (f : Nat → Nat → Bool) (L : List Nat) : Prop where
  le : n ≤ 64
  so : SOrd n f
  pm : L.Perm (List.range n)
  oi : OrI L n f
theorem order {S os : MH} {n : Nat} {ks : List Nat} (hS : St S) (hn : n ≤ 64) (h0 : 0 < ks.length) (h1 : ks.length ≤ 6) (hk : ∀ k ∈ ks, k ≤ 5) : ∃ (f : Nat → Nat → Bool) (L : List Nat) (S' : MH),
    f_law_order [.ref 0, nV n, .tup (ks.map nV)] (S ++ os) = ok (owV n f L) (S' ++ os) ∧ Ow n f L ∧ St S' := by
  obtain ⟨p, hp⟩ : ∃ p, p = 1 + os.length := ⟨_, rfl⟩
  obtain ⟨L, S1, e1, hL, hS1⟩ := line_ (os := os) (K := .tup (ks.map nV)) hS hn hp
  obtain ⟨d, kd, S2, e2, ex, mx, hS2⟩ := draw_of (os := os ++ [.lst (L.map nV)]) (es := ks) hS1 h0 (by omega)
  obtain ⟨g, S3, e3, ho, hoi, hS3⟩ := b4_ (os := os) (K := .tup (ks.map nV)) hS2 hn hp hL (hk kd mx)
  have q1 : (n : Int) ≤ 1000000 := by omega
  have q2 : (-1000000 : Int) ≤ n := by omega
  have l1 : n ≤ lim := by unfold lim; omega
  have hb2 : (S2 ++ (os ++ [MO.lst (L.map nV)])).length = p + 1 := by
    simp [hS2.len]
    omega
  have hb3 : (S3 ++ (os ++ [MO.lst (L.map nV)])).length = p + 1 := by
    simp [hS3.len]
    omega
  have en := mat_new (i := 7) (f := nV) (s0 := [some (.ref 0), some (nV n), some (.tup (ks.map nV)), some (.ref p), none, some (nV kd), none, none, none, none, none, none, none]) (m := repL (flsM (lstM (consA (cM (.bl false)) nilA))) (varM 1)) (fun _ => rowB n fun _ => false) (xs := List.range n) (h := S2 ++ (os ++ [.lst (L.map nV)])) (by simpa using l1) fun x _ h => by
    have l2 : 1 ≤ lim := by unfold lim; omega
    have rb := rep_bl (n := n) (v := false)
    simp [l2, q1, q2, l1]
    simpa using rb
  have t0 := tab_top (f := g) (n := n) hb3
  have pre3 : (S3 ++ (os ++ [MO.lst (L.map nV)])) ++ matH (p + 1) (rowsB n g) = S3 ++ (os ++ (.lst (L.map nV) :: matH (p + 1) (rowsB n g))) := by simp
  rw [pre3] at t0
  have row : ∀ x, x < n → (S3 ++ (os ++ (.lst (L.map nV) :: matH (p + 1) (rowsB n g))))[p + 1 + x]? = some (.lst (rowB n (g x))) := fun x hx => by
    have := tab_row (f := g) hb3 hx
    rwa [pre3] at this
  -- the pairs
  have nn : n * n ≤ 4096 := Nat.mul_le_mul hn hn
  obtain ⟨k, e5, hk5⟩ := for_m (f := nV) (bd := turnM (one 7) b5_law_order) (xs := List.range n) (fun k : Nat => [some (.ref 0), some (nV n), some (.tup (ks.map nV)), some (.ref p), none, some (.int (kd : Int)), some (.ref (p + 1 + n)), none, none, none, none, some (.fls (((List.range k).flatMap fun x => (fib n (g x)).map fun y => (x, y)).map prV)), none])
    (fun _ => S3 ++ (os ++ (.lst (L.map nV) :: matH (p + 1) (rowsB n g)))) (fun i k => k = i) (a0 := 0) rfl fun i x k hx hk => by
      obtain ⟨hi, ex⟩ := List.getElem?_eq_some_iff.mp hx
      rw [List.getElem_range] at ex
      subst ex
      subst hk
      have hi' : k < n := by simpa using hi
      refine ⟨k + 1, .inl ?_, rfl⟩
      have el := lc_p (i := 8) (f := nV) (cd := truM (opM ixF (opM ixF (varM 6) (varM 7)) (varM 8))) (el := tupM (consA (varM 7) (consA (varM 8) nilA))) (s0 := [some (.ref 0), some (nV n), some (.tup (ks.map nV)), some (.ref p), none, some (.int (kd : Int)), some (.ref (p + 1 + n)), some (nV k), none, none, none, some (.fls (((List.range k).flatMap fun x => (fib n (g x)).map fun y => (x, y)).map prV)), none])
        (h := S3 ++ (os ++ (.lst (L.map nV) :: matH (p + 1) (rowsB n g)))) (g k) (fun y => prV (k, y)) (xs := List.range n) (by simpa using l1) fun y hy => by
          have hy' := List.mem_range.mp hy
          refine ⟨?_, fun _ => ?_⟩
          · simp [t0, atI_n, refs_get hi', row k hi', rowB_get hy']
          · simp [lim]
      rw [← run_m] at el
      have l3 := prs_upto (n := n) (k := k + 1) (f := g) hi'
      have l4 : (k + 1) * n ≤ n * n := Nat.mul_le_mul hi' (Nat.le_refl n)
      rw [List.range_succ, List.flatMap_append, List.length_append] at l3
      simp only [List.flatMap_cons, List.flatMap_nil, List.append_nil, List.length_map] at l3
      have l5 : ((List.range k).flatMap fun x => (fib n (g x)).map fun y => (x, y)).length + ((List.range n).filter (g k)).length ≤ lim := by
        unfold lim
        have : ((List.range n).filter (g k)).length = (fib n (g k)).length := rfl
        omega
      have e9 : (((List.range k).flatMap fun x => (fib n (g x)).map fun y => (x, y)).map prV) ++ ((List.range n).filter (g k)).map (fun y => prV (k, y)) = ((List.range (k + 1)).flatMap fun x => (fib n (g x)).map fun y => (x, y)).map prV := by
        rw [List.range_succ, List.flatMap_append, List.map_append]
        simp [fib]
      generalize hps : ((List.range k).flatMap fun x => (fib n (g x)).map fun y => (x, y)) = ps at *
      simp [b5_law_order, q1, q2, el, l5]
      simpa using e9
  rw [List.length_range] at hk5
  subst hk5
  have e6 := lc_y (i := 7) (f := nV) (el := flsM (lcM (rng1 (consA (varM 1) nilA)) [8] (one 8) (orT (truM (opM ixF (opM ixF (varM 6) (varM 7)) (varM 8))) (truM (opM ixF (opM ixF (varM 6) (varM 8)) (varM 7)))) (varM 8))) (s0 := [some (.ref 0), some (nV k), some (.tup (ks.map nV)), some (.ref p), none, some (.int (kd : Int)), some (.ref (p + 1 + k)), none, none, none, none, some (.fls ((prs k g).map prV)), none])
    (h := S3 ++ (os ++ (.lst (L.map nV) :: matH (p + 1) (rowsB k g)))) (fun x => .fls ((fib k fun y => g x y || g y x).map nV)) (xs := List.range k) (by simpa using l1) fun x hx => by
      have hx' := List.mem_range.mp hx
      have el := lc_p (i := 8) (f := nV) (cd := orT (truM (opM ixF (opM ixF (varM 6) (varM 7)) (varM 8))) (truM (opM ixF (opM ixF (varM 6) (varM 8)) (varM 7)))) (el := varM 8) (s0 := [some (.ref 0), some (nV k), some (.tup (ks.map nV)), some (.ref p), none, some (.int (kd : Int)), some (.ref (p + 1 + k)), some (nV x), none, none, none, some (.fls ((prs k g).map prV)), none])
        (h := S3 ++ (os ++ (.lst (L.map nV) :: matH (p + 1) (rowsB k g)))) (fun y => g x y || g y x) nV (xs := List.range k) (by simpa using l1) fun y hy => by
          have hy' := List.mem_range.mp hy
          refine ⟨?_, fun _ => ?_⟩
          · cases c : g x y <;> simp [t0, atI_n, refs_get hx', refs_get hy', row x hx', row y hy', rowB_get hy', rowB_get hx', c]
          · simp
      rw [← run_m] at el
      simp [q1, q2, el, fib]
  have fz := frz_mat (b := p + 1) (n := k) (rows := rowsB k g) (pre := S3 ++ (os ++ [MO.lst (L.map nV)])) (ks := []) rowsB_flat hb3 rowsB_len
  rw [List.append_nil, pre3, rowsB_fls] at fz
  have a3 : (S3 ++ (os ++ (MO.lst (L.map nV) :: List.replicate (k + 1) MO.dead)))[p]? = some (.lst (L.map nV)) := at1 hS3.len hp
  have fl := frz_lst 2 a3 (List.all_eq_true.mpr fun x hx => by
    obtain ⟨i, _, e⟩ := List.mem_map.mp hx
    rw [← e]
    rfl)
  rw [st1 hS3.len hp] at fl
  refine ⟨g, L, S3, ?_, ⟨hn, ho, hL, hoi⟩, hS3⟩
  refine cut_s (ks := .dead :: List.replicate (k + 1) MO.dead) ?_ (by rw [hS3.len, hS.len]) hS3.self (by simp)
  have hp' : S.length + os.length = p := by rw [hS.len, hp]
  have hp2 : S2.length + (os.length + 1) = p + 1 := by rw [hS2.len, hp]; omega
  have en2 : refM (lcM (rng1 (consA (varM 1) nilA)) [7] (one 7) yesT (refM (repL (flsM (lstM (consA (cM (.bl false)) nilA))) (varM 1)))) [some (.ref 0), some (nV k), some (.tup (ks.map nV)), some (.ref p), none, some (nV kd), none, none, none, none, none, none, none] (S2 ++ (os ++ [.lst (L.map nV)])) = ok (.ref (p + 1 + k)) (S2 ++ (os ++ (.lst (L.map nV) :: matH (p + 1) (rowsB k fun _ _ => false)))) := by
    have rg := rng1_n (n := k) (h := S2 ++ (os ++ [.lst (L.map nV)])) (by omega)
    have c1 : consA (varM 1) nilA [some (.ref 0), some (nV k), some (.tup (ks.map nV)), some (.ref p), none, some (nV kd), none, none, none, none, none, none, none] (S2 ++ (os ++ [.lst (L.map nV)])) = ok [nV k] (S2 ++ (os ++ [.lst (L.map nV)])) := rfl
    have c2 : wipeM [some (.ref 0), some (nV k), some (.tup (ks.map nV)), some (.ref p), none, some (nV kd), none, none, none, none, none, none, none] [7] = [some (.ref 0), some (nV k), some (.tup (ks.map nV)), some (.ref p), none, some (nV kd), none, none, none, none, none, none, none] := rfl
    simp only [refM, lcM, rng1, c1, bnd_ok, rg, c2] at en ⊢
    rw [en, bnd_ok]
    simp only [ok_inj]
    constructor
    · simp [hS2.len, hp]
      omega
    · rw [hb2]
      simp [matH, rowsB, tb]
  refine defM_ret rfl ?_
  show m_law_order [some (.ref 0), some (nV k), some (.tup (ks.map nV)), none, none, none, none, none, none, none, none, none, none] (S ++ os) = _
  unfold m_law_order
  rw [← run_m] at e1 e3 e5 e6
  refine (seq_nx (s1 := [some (.ref 0), some (nV k), some (.tup (ks.map nV)), some (.ref p), none, none, none, none, none, none, none, none, none]) (h1 := S ++ (os ++ [.lst []])) (by simp [hp'])).trans ?_
  refine (seq_nx (s1 := [some (.ref 0), some (nV k), some (.tup (ks.map nV)), some (.ref p), none, none, none, none, none, none, none, none, none]) (h1 := S1 ++ (os ++ [.lst (L.map nV)])) (by simp [q1, q2, e1])).trans ?_
  refine (seq_nx (s1 := [some (.ref 0), some (nV k), some (.tup (ks.map nV)), some (.ref p), none, some (nV kd), none, none, none, none, none, none, none]) (h1 := S2 ++ (os ++ [.lst (L.map nV)])) (by simp [e2, atI_n, ex])).trans ?_
  refine (seq_nx (s1 := [some (.ref 0), some (nV k), some (.tup (ks.map nV)), some (.ref p), none, some (nV kd), some (.ref (p + 1 + k)), none, none, none, none, none, none]) (h1 := S2 ++ (os ++ (.lst (L.map nV) :: matH (p + 1) (rowsB k fun _ _ => false)))) (by unfold setS; rw [en2]; rfl)).trans ?_
  refine (seq_nx (s1 := [some (.ref 0), some (nV k), some (.tup (ks.map nV)), some (.ref p), none, some (nV kd), some (.ref (p + 1 + k)), none, none, none, none, none, none]) (h1 := S3 ++ (os ++ (.lst (L.map nV) :: matH (p + 1) (rowsB k g)))) (by simp [q1, q2, e3])).trans ?_
  refine (seq_nx (s1 := [some (.ref 0), some (nV k), some (.tup (ks.map nV)), some (.ref p), none, some (nV kd), some (.ref (p + 1 + k)), none, none, none, none, some (.fls []), none]) (h1 := S3 ++ (os ++ (.lst (L.map nV) :: matH (p + 1) (rowsB k g)))) (by simp)).trans ?_
  refine (seq_nx (s1 := [some (.ref 0), some (nV k), some (.tup (ks.map nV)), some (.ref p), none, some (nV kd), some (.ref (p + 1 + k)), none, none, none, none, some (.fls ((prs k g).map prV)), none]) (h1 := S3 ++ (os ++ (.lst (L.map nV) :: matH (p + 1) (rowsB k g)))) (by
    have e5' : forS (turnM (one 7) b5_law_order) (runOf 0 k) [some (.ref 0), some (nV k), some (.tup (ks.map nV)), some (.ref p), none, some (.int (kd : Int)), some (.ref (p + 1 + k)), none, none, none, none, some (.fls []), none] (S3 ++ (os ++ (.lst (L.map nV) :: matH (p + 1) (rowsB k g)))) = some (.nx [some (.ref 0), some (nV k), some (.tup (ks.map nV)), some (.ref p), none, some (.int (kd : Int)), some (.ref (p + 1 + k)), none, none, none, none, some (.fls ((prs k g).map prV)), none] (S3 ++ (os ++ (.lst (L.map nV) :: matH (p + 1) (rowsB k g))))) := e5
    simp [q1, q2, e5'])).trans ?_
  refine (seq_nx (s1 := [some (.ref 0), some (nV k), some (.tup (ks.map nV)), some (.ref p), none, some (nV kd), some (.ref (p + 1 + k)), none, none, none, none, some (.fls ((prs k g).map prV)), some (nearV k g)]) (h1 := S3 ++ (os ++ (.lst (L.map nV) :: matH (p + 1) (rowsB k g)))) (by simp [q1, q2, e6, nearV])).trans ?_
  simp [fz, fl, lim, owV, ordV]
end Mi.k13
set_option maxHeartbeats 4000000
namespace Mi.k13
open PySem L2
theorem at_most_ {m a b : Nat} {g : Nat → Nat → Bool} {h : MH} (ha : a < m) (hb : b < m) : f_law_at_most [matV m m g, .int (a : Int), .int (b : Int)] h = ok (.bl (leB g a b)) h := by
  have t1 := matV_get (b := m) (f := g) ha
  have t2 : (tb m fun y => MV.bl (g a y))[b]? = some (.bl (g a b)) := tb_get hb
  unfold leB
  by_cases c : a = b
  · subst c
    simp [f_law_at_most, m_law_at_most, eqB]
  · have c' : ¬ ((a : Int) = (b : Int)) := by omega
    simp [f_law_at_most, m_law_at_most, eqB, c', matV, atI_n, t1, t2, c]
structure Ri (n m : Nat) (f g : Nat → Nat → Bool) (r : List Nat) : Prop extends Mp n m r where
  up : ∀ x y v w, f x y = true → r[x]? = some v → r[y]? = some w → leB g v w = true
/-- after i points of the line -/
structure MI (n m : Nat) (f g : Nat → Nat → Bool) (L : List Nat) (i : Nat) (r : List Nat) : Prop where
  len : r.length = n
  lt : ∀ j x v, j < i → L[j]? = some x → r[x]? = some v → v < m
  up : ∀ j k x y v w, j < i → k < i → L[j]? = some x → L[k]? = some y → f x y = true → r[x]? = some v → r[y]? = some w → leB g v w = true
theorem map_ {S os : MH} {n m : Nat} {f g : Nat → Nat → Bool} {L L2 : List Nat} (hS : St S) (o1 : Ow n f L) (o2 : Ow m g L2) (h0 : 0 < n → 0 < m) : ∃ (r : List Nat) (S' : MH),
    f_law_map [.ref 0, owV n f L, owV m g L2] (S ++ os) = ok (.fls (r.map nV)) (S' ++ os) ∧ Ri n m f g r ∧ St S' := by
  obtain ⟨p, hp⟩ : ∃ p, p = 1 + os.length := ⟨_, rfl⟩
  have hn := o1.le
  have hm := o2.le
  have q1 : (n : Int) ≤ 1000000 := by omega
  have q2 : (-1000000 : Int) ≤ n := by omega
  have q3 : (m : Int) ≤ 1000000 := by omega
  have q4 : (-1000000 : Int) ≤ m := by omega
  have l1 : n ≤ lim := by unfold lim; omega
  have l2 : m ≤ lim := by unfold lim; omega
  have hd : L.Nodup := o1.pm.nodup_iff.mpr List.nodup_range
  have hlen : L.length = n := by simpa using o1.pm.length_eq
  have hlt : ∀ x ∈ L, x < n := fun x hx => List.mem_range.mp (o1.pm.mem_iff.mp hx)
  have st0 : forS (turnM (one 6) b1_law_map) (L.map nV) [some (.ref 0), some (owV n f L), some (owV m g L2), some (nV n), some (nV m), some (.ref p), none, none, none, none, none, none, none] (S ++ (os ++ [.lst ((List.replicate n 0).map nV)])) =
      forS (turnM (one 6) b1_law_map) (L.map nV) [some (.ref 0), some (owV n f L), some (owV m g L2), some (nV n), some (nV m), some (.ref p), none, none, none, none, none, none, none] (S ++ (os ++ [.lst ((List.replicate n 0).map nV)])) := rfl
  have lp := for_mr (f := nV) (bd := turnM (one 6) b1_law_map) (xs := L) (i0 := 0) (a0 := (List.replicate n 0, S)) (fun _ : List Nat × MH => [some (.ref 0), some (owV n f L), some (owV m g L2), some (nV n), some (nV m), some (.ref p), none, none, none, none, none, none, none])
    (fun a => a.2 ++ (os ++ [.lst (a.1.map nV)])) (fun i a => MI n m f g L i a.1 ∧ St a.2) (fun v a => (∃ d, d < m ∧ v = .fls ((List.replicate n d).map nV)) ∧ St a.2) ⟨⟨by simp, fun j x v z => absurd z (Nat.not_lt_zero _), fun j k x y v w z => absurd z (Nat.not_lt_zero _)⟩, hS⟩ fun i x a hx ⟨h1, h2⟩ => by
      obtain ⟨r, S1⟩ := a
      rw [Nat.zero_add] at h1 ⊢
      have hi : i < L.length := (List.getElem?_eq_some_iff.mp hx).1
      have hxn := hlt x (List.mem_of_getElem? hx)
      have mpos := h0 (by omega)
      -- the values below
      have at_ : ∀ y, y < n → f y x = true → ∃ v, r[y]? = some v ∧ v < m ∧ ∃ j, j < i ∧ L[j]? = some y := fun y hy hf => by
        obtain ⟨j, k, e1, e2, e3, e4⟩ := o1.oi.ix _ _ hf
        have : k = i := nd_ix hd e4 hx
        subst this
        obtain ⟨v, hv⟩ : ∃ v, r[y]? = some v := ⟨_, List.getElem?_eq_getElem (by rw [h1.len]; exact hy)⟩
        exact ⟨v, hv, h1.lt j y v e1 e3 hv, j, e1, e3⟩
      have a1 := at1 (t := []) (o := .lst (r.map nV)) (S := S1) (os := os) h2.len hp
      have t1 : ∀ y, y < n → (tb n fun x => MV.fls (tb n fun y => MV.bl (f x y)))[y]? = some (.fls (tb n fun z => .bl (f y z))) := fun y hy => tb_get hy
      have t2 : ∀ y, (tb n fun z => MV.bl (f y z))[x]? = some (.bl (f y x)) := fun y => tb_get hxn
      have el := lc_p (i := 8) (f := nV) (cd := truM (opM ixF (opM ixF (opM ixF (varM 1) (cM (.int 1))) (varM 8)) (varM 6))) (el := opM ixF (varM 5) (varM 8)) (s0 := [some (.ref 0), some (owV n f L), some (owV m g L2), some (nV n), some (nV m), some (.ref p), some (nV x), none, none, none, none, none, none])
        (h := S1 ++ (os ++ [.lst (r.map nV)])) (fun y => f y x) (fun y => nV (r.getD y 0)) (xs := List.range n) (by simpa using l1) fun y hy => by
          have hy' := List.mem_range.mp hy
          refine ⟨?_, fun c => ?_⟩
          · simp [owV, atI_1, matV, atI_n, t1 y hy', t2]
          · obtain ⟨v, hv, _⟩ := at_ y hy' c
            simp [a1, atI_n, hv]
      obtain ⟨lv, hlv⟩ : ∃ lv : List Nat, lv = ((List.range n).filter fun y => f y x).map fun y => r.getD y 0 := ⟨_, rfl⟩
      have elv : ((List.range n).filter fun y => f y x).map (fun y => nV (r.getD y 0)) = lv.map nV := by
        rw [hlv, List.map_map]
        rfl
      have lvm : ∀ v, v ∈ lv ↔ ∃ y, y < n ∧ f y x = true ∧ r.getD y 0 = v := fun v => by
        rw [hlv, List.mem_map]
        simp [List.mem_filter, List.mem_range, and_assoc]
      have lvlt : ∀ v ∈ lv, v < m := fun v hv => by
        obtain ⟨y, hy, hf, e⟩ := (lvm v).mp hv
        obtain ⟨w, hw, hwm, _⟩ := at_ y hy hf
        rw [List.getD_eq_getElem?_getD, hw] at e
        have : w = v := e
        omega
      have lvlen : lv.length ≤ lim := by
        rw [hlv, List.length_map]
        exact Nat.le_trans (List.length_filter_le _ _) (by simpa using l1)
      rw [elv, ← run_m] at el
      -- what fits
      have ef := lc_p (i := 10) (f := nV) (cd := tstM (opM eqF (bltM lenF (consA (flsM (lcM (seqI (varM 7)) [11] (one 11) (notT (truM (callM f_law_at_most [] (consA (opM ixF (varM 2) (cM (.int 1))) (consA (varM 11) (consA (varM 10) nilA)))))) (varM 11))) nilA)) (cM (.int 0)))) (el := varM 10) (s0 := [some (.ref 0), some (owV n f L), some (owV m g L2), some (nV n), some (nV m), some (.ref p), some (nV x), some (.fls (lv.map nV)), none, none, none, none, none])
        (h := S1 ++ (os ++ [.lst (r.map nV)])) (fun q => lv.all fun a => leB g a q) nV (xs := List.range m) (by simpa using l2) fun q hq => by
          have hq' := List.mem_range.mp hq
          refine ⟨?_, fun _ => by simp⟩
          have e2 := lc_p (i := 11) (f := nV) (cd := notT (truM (callM f_law_at_most [] (consA (opM ixF (varM 2) (cM (.int 1))) (consA (varM 11) (consA (varM 10) nilA)))))) (el := varM 11) (s0 := [some (.ref 0), some (owV n f L), some (owV m g L2), some (nV n), some (nV m), some (.ref p), some (nV x), some (.fls (lv.map nV)), none, none, some (nV q), none, none])
            (h := S1 ++ (os ++ [.lst (r.map nV)])) (fun a => !leB g a q) nV (xs := lv) lvlen fun a ha => by
              have := at_most_ (g := g) (h := S1 ++ (os ++ [.lst (r.map nV)])) (lvlt a ha) hq'
              refine ⟨?_, fun _ => by simp⟩
              simp [owV, atI_1, this]
          have e3 : (lv.all fun a => leB g a q) = (lv.filter fun a => !leB g a q).isEmpty := by
            rw [Bool.eq_iff_iff, List.all_eq_true, List.isEmpty_iff, List.filter_eq_nil_iff]
            simp
          rw [e3]
          generalize hz : (lv.filter fun a => !leB g a q) = zs at e2 ⊢
          simp only [tstM, opM, bltM, consA, flsM, lcM, seqI]
          have e4 : ∀ (zs : List Nat), eqB (.int ((zs.map nV).length : Int)) (.int 0) = some zs.isEmpty := fun zs => by
            cases zs with
            | nil => rfl
            | cons u us =>
              simp [eqB]
              omega
          have e5 := e4 zs
          simp at e5
          simp [e2, e5]
      obtain ⟨fv, hfv⟩ : ∃ fv : List Nat, fv = (List.range m).filter fun q => lv.all fun a => leB g a q := ⟨_, rfl⟩
      rw [← hfv, ← run_m] at ef
      have fvm : ∀ v, v ∈ fv ↔ v < m ∧ ∀ a ∈ lv, leB g a v = true := fun v => by
        rw [hfv, List.mem_filter, List.mem_range, List.all_eq_true]
      have fvlen : fv.length ≤ 64 := by
        rw [hfv]
        exact Nat.le_trans (List.length_filter_le _ _) (by simpa using hm)
      by_cases c : fv = []
      · obtain ⟨d, S2, e2, hd2, hS2⟩ := draw (os := os ++ [.lst (r.map nV)]) (m := m) h2 mpos (by omega)
        refine .inr ⟨_, (r, S2), ?_, ⟨d, hd2, rfl⟩, hS2⟩
        subst c
        have rp : (List.replicate n [MV.int (d : Int)]).flatten = (List.replicate n d).map nV := by
          simp
        have l3 : 1 ≤ lim := by unfold lim; omega
        simp [b1_law_map, q1, q2, el, q3, q4, ef, eqB, e2, rp, l1, l3]
      · obtain ⟨d, v, S2, e2, ev, mv, hS2⟩ := draw_of (os := os ++ [.lst (r.map nV)]) (es := fv) h2 (List.length_pos_iff.mpr c) fvlen
        obtain ⟨hv1, hv2⟩ := (fvm v).mp mv
        refine .inl ⟨(r.set x v, S2), .inl ?_, ⟨by rw [List.length_set]; exact h1.len, fun j z w hj hz hw => ?_, fun j k z y w u hj hk hz hy hf hw hu => ?_⟩, hS2⟩
        · have a2 := at1 (t := []) (o := .lst (r.map nV)) (S := S2) (os := os) hS2.len hp
          have a3 := st1 (t := []) (o := .lst (r.map nV)) (u := .lst ((r.set x v).map nV)) (S := S2) (os := os) hS2.len hp
          rw [List.map_set] at a3
          have c' : ¬ fv.length = 0 := fun z => c (List.length_eq_zero_iff.mp z)
          have hr : x < r.length := by rw [h1.len]; exact hxn
          simp [b1_law_map, q1, q2, el, q3, q4, ef, eqB, c, e2, atI_n, ev, a2, ixN_n, hr, a3]
        · by_cases q : z = x
          · subst q
            rw [List.getElem?_set_self (by rw [h1.len]; exact hxn)] at hw
            cases hw
            exact hv1
          · rw [List.getElem?_set_ne (Ne.symm q)] at hw
            refine h1.lt j z w ?_ hz hw
            rcases Nat.lt_succ_iff_lt_or_eq.mp hj with h | h
            · exact h
            · subst h
              rw [hx] at hz
              exact absurd (Option.some.inj hz).symm q
        · obtain ⟨j', k', g1, g2, g3, g4⟩ := o1.oi.ix _ _ hf
          have ej : j' = j := nd_ix hd g3 hz
          have ek : k' = k := nd_ix hd g4 hy
          subst ej
          subst ek
          have zx : z ≠ x := fun q => by
            subst q
            have := nd_ix hd hz hx
            omega
          rw [List.getElem?_set_ne (Ne.symm zx)] at hw
          by_cases q : y = x
          · subst q
            rw [List.getElem?_set_self (by rw [h1.len]; exact hxn)] at hu
            cases hu
            refine hv2 w ((lvm w).mpr ⟨z, (o1.so.lt _ _ hf).1, hf, ?_⟩)
            rw [List.getD_eq_getElem?_getD, hw]
            rfl
          · rw [List.getElem?_set_ne (Ne.symm q)] at hu
            refine h1.up j' k' z y w u ?_ ?_ hz hy hf hw hu
            · rcases Nat.lt_succ_iff_lt_or_eq.mp hj with h | h
              · exact h
              · subst h
                rw [hx] at hz
                exact absurd (Option.some.inj hz).symm zx
            · rcases Nat.lt_succ_iff_lt_or_eq.mp hk with h | h
              · exact h
              · subst h
                rw [hx] at hy
                exact absurd (Option.some.inj hy).symm q
  have hp' : S.length + os.length = p := by rw [hS.len, hp]
  have rp : (List.replicate n [MV.int 0]).flatten = (List.replicate n 0).map nV := by simp
  have sim0 : ∀ r, m_law_map [some (.ref 0), some (owV n f L), some (owV m g L2), none, none, none, none, none, none, none, none, none, none] (S ++ os) = r ↔
      seqS (preW [6, 7, 9, 12] (forM (seqI (opM ixF (varM 1) (cM (.int 2)))) (one 6) b1_law_map)) (retS (frzM (varM 5))) [some (.ref 0), some (owV n f L), some (owV m g L2), some (nV n), some (nV m), some (.ref p), none, none, none, none, none, none, none] (S ++ (os ++ [.lst ((List.replicate n 0).map nV)])) = r := fun r => by
    unfold m_law_map
    have s1 : setS 3 (bltM lenF (consA (opM ixF (varM 1) (cM (.int 1))) nilA)) [some (.ref 0), some (owV n f L), some (owV m g L2), none, none, none, none, none, none, none, none, none, none] (S ++ os) = some (.nx [some (.ref 0), some (owV n f L), some (owV m g L2), some (nV n), none, none, none, none, none, none, none, none, none] (S ++ os)) := by
      simp [owV, atI_1, matV, tb_len]
    have s2 : setS 4 (bltM lenF (consA (opM ixF (varM 2) (cM (.int 1))) nilA)) [some (.ref 0), some (owV n f L), some (owV m g L2), some (nV n), none, none, none, none, none, none, none, none, none] (S ++ os) = some (.nx [some (.ref 0), some (owV n f L), some (owV m g L2), some (nV n), some (nV m), none, none, none, none, none, none, none, none] (S ++ os)) := by
      simp [owV, atI_1, matV, tb_len]
    have s3 : setS 5 (refM (repL (flsM (lstM (consA (cM (.int 0)) nilA))) (varM 3))) [some (.ref 0), some (owV n f L), some (owV m g L2), some (nV n), some (nV m), none, none, none, none, none, none, none, none] (S ++ os) = some (.nx [some (.ref 0), some (owV n f L), some (owV m g L2), some (nV n), some (nV m), some (.ref p), none, none, none, none, none, none, none] (S ++ (os ++ [.lst ((List.replicate n 0).map nV)]))) := by
      have l3 : 1 ≤ lim := by unfold lim; omega
      simp [l3, q1, q2, l1, hp', rp]
    rw [seq_nx s1, seq_nx s2, seq_nx s3]
  have fo : preW [6, 7, 9, 12] (forM (seqI (opM ixF (varM 1) (cM (.int 2)))) (one 6) b1_law_map) [some (.ref 0), some (owV n f L), some (owV m g L2), some (nV n), some (nV m), some (.ref p), none, none, none, none, none, none, none] (S ++ (os ++ [.lst ((List.replicate n 0).map nV)])) =
      forS (turnM (one 6) b1_law_map) (L.map nV) [some (.ref 0), some (owV n f L), some (owV m g L2), some (nV n), some (nV m), some (.ref p), none, none, none, none, none, none, none] (S ++ (os ++ [.lst ((List.replicate n 0).map nV)])) := by
    have e2 : atI [ordV n (prs n f), matV n n f, .fls (L.map nV), nearV n f] 2 = some (.fls (L.map nV)) := atI_2
    simp [owV, e2]
  rcases lp with ⟨⟨r, S1⟩, e, h1, h2⟩ | ⟨v, ⟨r, S1⟩, e, ⟨d, hd2, ev⟩, h2⟩
  · rw [Nat.zero_add, hlen] at h1
    have all : ∀ x, x < n → ∃ j, j < n ∧ L[j]? = some x := fun x hx => by
      obtain ⟨j, hj⟩ := List.getElem?_of_mem (o1.pm.mem_iff.mpr (List.mem_range.mpr hx))
      have := (List.getElem?_eq_some_iff.mp hj).1
      exact ⟨j, by omega, hj⟩
    refine ⟨r, S1, ?_, ⟨⟨h1.len, fun v hv => ?_⟩, fun x y v w hf hv hw => ?_⟩, h2⟩
    · refine cut_s (ks := [.dead]) ?_ (by rw [h2.len, hS.len]) h2.self (by simp)
      refine defM_ret rfl ((sim0 _).mpr ?_)
      have a1 := at1 (t := []) (o := .lst (r.map nV)) (S := S1) (os := os) h2.len hp
      have fl := frz_lst 2 a1 (List.all_eq_true.mpr fun x hx => by
        obtain ⟨i, _, e⟩ := List.mem_map.mp hx
        rw [← e]
        rfl)
      rw [st1 h2.len hp] at fl
      rw [seq_nx (fo.trans e)]
      simp [fl]
    · obtain ⟨x, hx⟩ := List.getElem?_of_mem hv
      have := (List.getElem?_eq_some_iff.mp hx).1
      obtain ⟨j, hj, ej⟩ := all x (by rw [← h1.len]; exact this)
      exact h1.lt j x v hj ej hx
    · obtain ⟨j, hj, ej⟩ := all x (o1.so.lt _ _ hf).1
      obtain ⟨k, hk, ek⟩ := all y (o1.so.lt _ _ hf).2
      exact h1.up j k x y v w hj hk ej ek hf hv hw
  · refine ⟨List.replicate n d, S1, ?_, ⟨⟨by simp, fun v hv => by rw [List.eq_of_mem_replicate hv]; exact hd2⟩, fun x y v w hf hv hw => ?_⟩, h2⟩
    · refine cut_s (ks := [.lst (r.map nV)]) ?_ (by rw [h2.len, hS.len]) h2.self (show cloL 0 ((List.replicate n d).map nV) = true from clo_ns)
      refine defM_ret rfl ((sim0 _).mpr ?_)
      unfold seqS
      rw [fo.trans e, ev]
    · have e1 := List.eq_of_mem_replicate (List.mem_of_getElem? hv)
      have e2 := List.eq_of_mem_replicate (List.mem_of_getElem? hw)
      unfold leB
      rw [e1, e2, beq_self_eq_true]
      rfl
end Mi.k13
set_option maxHeartbeats 4000000
namespace Mi.k13
open PySem L2
/-- masks of a relation's rows -/
def mkL (n : Nat) (g : Nat → Nat → Bool) : List MV := tb n fun x => nV (msk n (g x))
def mkV (n : Nat) (g : Nat → Nat → Bool) : MV := .tup (mkL n g)
theorem mkL_len {n : Nat} {g : Nat → Nat → Bool} : (mkL n g).length = n := tb_len
theorem mkL_get {n x : Nat} {g : Nat → Nat → Bool} (h : x < n) : (mkL n g)[x]? = some (.int (msk n (g x) : Int)) := tb_get (F := fun x => nV (msk n (g x))) h
theorem mkL_congr {n : Nat} {g k : Nat → Nat → Bool} (h : ∀ x y, x < n → y < n → g x y = k x y) : mkL n g = mkL n k := tb_congr fun x hx => by rw [msk_congr fun y hy => h x y hx hy]
theorem mkV_congr {n : Nat} {g k : Nat → Nat → Bool} (h : ∀ x y, x < n → y < n → g x y = k x y) : mkV n g = mkV n k := congrArg MV.tup (mkL_congr h)
theorem mkL_set {n x : Nat} {g : Nat → Nat → Bool} {c : Nat → Bool} : (mkL n g).set x (.int (msk n c : Int)) = mkL n fun i => if i = x then c else g i := by
  unfold mkL
  rw [tb_set]
  refine tb_congr fun i _ => ?_
  by_cases q : i = x <;> simp [q]
@[simp] theorem clo_mkV {k n : Nat} {g : Nat → Nat → Bool} : cloV k (mkV n g) = true := cloL_map fun _ => rfl
/-- numbers below n -/
def In (n : Nat) (ps : List (Nat × Nat)) : Prop := ∀ p ∈ ps, p.1 < n ∧ p.2 < n
def mem (ps : List (Nat × Nat)) : Nat → Nat → Bool := fun x y => decide ((x, y) ∈ ps)
theorem take_mem {ps : List (Nat × Nat)} {i : Nat} {p : Nat × Nat} (e : ps[i]? = some p) {x y : Nat} : mem (ps.take (i + 1)) x y = (mem (ps.take i) x y || (decide (x = p.1) && decide (y = p.2))) := by
  unfold mem
  rw [List.take_add_one, e, Bool.eq_iff_iff]
  simp [Prod.ext_iff]
theorem pow1 {y : Nat} : (2 : Int) ^ y = ((2 ^ y : Nat) : Int) := by simp
theorem high_masks {n : Nat} {ps : List (Nat × Nat)} {h : MH} (hn : n ≤ 64) (hp : In n ps) : f_high_masks [ordV n ps] h = ok (mkV n (mem ps)) h := by
  have q1 : (n : Int) ≤ 1000000 := by omega
  have q2 : (-1000000 : Int) ≤ n := by omega
  have l1 : n ≤ lim := by unfold lim; omega
  have l2 : 1 ≤ lim := by unfold lim; omega
  obtain ⟨w, e, hw⟩ := for_m (f := prV) (bd := turnM (unp [4, 5]) b1_high_masks) (xs := ps) (fun _ : Nat → Nat → Bool => [some (ordV n ps), some (nV n), some (.tup (ps.map prV)), some (.ref h.length), none, none]) (fun g => h ++ [.lst (mkL n g)]) (fun i g => g = mem (ps.take i)) (a0 := mem []) (by rfl) fun i p g hx hg => by
    subst hg
    obtain ⟨h1, h2⟩ := hp p (List.mem_of_getElem? hx)
    refine ⟨mem (ps.take (i + 1)), .inl ?_, rfl⟩
    have e1 := mkL_get (g := mem (ps.take i)) h1
    have po : powOk 1 (p.2 : Int) := ⟨by omega, by omega, by decide⟩
    have e2 : mkL n (mem (ps.take (i + 1))) = (mkL n (mem (ps.take i))).set p.1 (.int ((msk n (mem (ps.take i) p.1) ||| 2 ^ p.2 : Nat) : Int)) := by
      rw [msk_one h2, mkL_set]
      refine mkL_congr fun x y hx' hy => ?_
      rw [take_mem hx]
      by_cases c : x = p.1
      · subst c
        simp
      · simp [c]
    obtain ⟨t, et⟩ : ∃ t : Nat, 2 ^ p.2 = t := ⟨_, rfl⟩
    have pw : (2 : Int) ^ p.2 = (t : Int) := by rw [pow1, et]
    rw [et] at e2
    have hix : ixN (mkL n (mem (ps.take i))).length (p.1 : Int) = some p.1 := by rw [mkL_len, ixN_n, if_pos h1]
    simp [b1_high_masks, e1, atI_n, po, pw, bitOr_nat, hix, e2]
  rw [List.take_length] at hw
  subst hw
  have r0 : (List.replicate n [MV.int 0]).flatten = mkL n (mem []) := by
    rw [rep_int]
    refine tb_congr fun x _ => ?_
    have : msk n (mem [] x) = 0 := msk_zero.mpr fun j _ => rfl
    rw [this]
    rfl
  refine cut_p (os := [.lst (mkL n (mem ps))]) ?_ clo_mkV
  simp only [ordV] at e ⊢
  simp [m_high_masks, l2, q1, q2, l1, r0, e, mkV]
theorem low_masks {n : Nat} {ps : List (Nat × Nat)} {h : MH} (hn : n ≤ 64) (hp : In n ps) : f_low_masks [ordV n ps] h = ok (mkV n fun x y => mem ps y x) h := by
  have q1 : (n : Int) ≤ 1000000 := by omega
  have q2 : (-1000000 : Int) ≤ n := by omega
  have l1 : n ≤ lim := by unfold lim; omega
  have l2 : 1 ≤ lim := by unfold lim; omega
  obtain ⟨w, e, hw⟩ := for_m (f := prV) (bd := turnM (unp [4, 5]) b1_low_masks) (xs := ps) (fun _ : Nat → Nat → Bool => [some (ordV n ps), some (nV n), some (.tup (ps.map prV)), some (.ref h.length), none, none]) (fun g => h ++ [.lst (mkL n fun x y => g y x)]) (fun i g => g = mem (ps.take i)) (a0 := mem []) (by rfl) fun i p g hx hg => by
    subst hg
    obtain ⟨h1, h2⟩ := hp p (List.mem_of_getElem? hx)
    refine ⟨mem (ps.take (i + 1)), .inl ?_, rfl⟩
    have e1 := mkL_get (g := fun x y => mem (ps.take i) y x) h2
    have po : powOk 1 (p.1 : Int) := ⟨by omega, by omega, by decide⟩
    have e2 : mkL n (fun x y => mem (ps.take (i + 1)) y x) = (mkL n (fun x y => mem (ps.take i) y x)).set p.2 (.int ((msk n (fun y => mem (ps.take i) y p.2) ||| 2 ^ p.1 : Nat) : Int)) := by
      rw [msk_one h1, mkL_set]
      refine mkL_congr fun x y hx' hy => ?_
      show mem (ps.take (i + 1)) y x = _
      rw [take_mem hx]
      by_cases c : x = p.2
      · subst c
        simp
      · simp [c]
    obtain ⟨t, et⟩ : ∃ t : Nat, 2 ^ p.1 = t := ⟨_, rfl⟩
    have pw : (2 : Int) ^ p.1 = (t : Int) := by rw [pow1, et]
    rw [et] at e2
    have hix : ixN (mkL n (fun x y => mem (ps.take i) y x)).length (p.2 : Int) = some p.2 := by rw [mkL_len, ixN_n, if_pos h2]
    simp [b1_low_masks, e1, atI_n, po, pw, bitOr_nat, hix, e2]
  rw [List.take_length] at hw
  subst hw
  have r0 : (List.replicate n [MV.int 0]).flatten = mkL n (fun x y => mem [] y x) := by
    rw [rep_int]
    refine tb_congr fun x _ => ?_
    have : msk n (fun y => mem [] y x) = 0 := msk_zero.mpr fun j _ => rfl
    rw [this]
    rfl
  refine cut_p (os := [.lst (mkL n fun x y => mem ps y x)]) ?_ clo_mkV
  simp only [ordV] at e ⊢
  simp [m_low_masks, l2, q1, q2, l1, r0, e, mkV]
/-! enumerate of numbers -/
def iprV (p : Nat × Nat) : MV := .tup [nV p.1, nV p.2]
theorem enmOf_map {β : Type} {f : β → MV} : ∀ {xs : List β} {k : Nat}, enmOf k (xs.map f) = (xs.zipIdx k).map fun p => .tup [nV p.2, f p.1]
  | [], _ => rfl
  | x :: xs, k => by
    rw [List.map_cons, List.zipIdx_cons, List.map_cons, ← enmOf_map (xs := xs) (k := k + 1)]
    rfl
theorem at_least_masks {n : Nat} {ps : List (Nat × Nat)} {h : MH} (hn : n ≤ 64) (hp : In n ps) : f_at_least_masks [ordV n ps] h = ok (mkV n fun x y => mem ps x y || decide (y = x)) h := by
  have e1 := high_masks (h := h) hn hp
  have l1 : n ≤ lim := by unfold lim; omega
  have ee : enmOf 0 (mkL n (mem ps)) = (List.range n).map fun x => .tup [nV x, nV (msk n (mem ps x))] := by
    refine List.ext_getElem? fun i => ?_
    unfold mkL tb
    rw [enmOf_map, List.getElem?_map, List.getElem?_zipIdx, List.getElem?_map]
    by_cases c : i < n
    · rw [List.getElem?_range c]
      simp
    · rw [List.getElem?_eq_none (by simpa using Nat.le_of_not_lt c)]
      rfl
  have el := lcS_pure (g := unp [1, 2]) (cd := yesT) (el := opM orF (varM 2) (opM shlF (cM (.int 1)) (varM 1))) (s0 := [some (ordV n ps), none, none]) (h := h) (fun _ => true) (fun x => match x with
    | .tup [.int i, .int m] => .int ((m.toNat ||| 2 ^ i.toNat : Nat) : Int)
    | _ => .non) (xs := (List.range n).map fun x => .tup [nV x, nV (msk n (mem ps x))]) (acc := []) (fun x hx => by
      obtain ⟨i, hi, e⟩ := List.mem_map.mp hx
      subst e
      have hi' := List.mem_range.mp hi
      refine ⟨_, rfl, rfl, fun _ => ?_⟩
      have po : powOk 1 (i : Int) := ⟨by omega, by omega, by decide⟩
      have pw := pow1 (y := i)
      generalize hm : msk n (mem ps i) = m
      generalize ht : 2 ^ i = t at pw
      simp [po, pw, bitOr_nat, ht]) (by simpa using l1)
  have e3 : ((List.range n).map fun x => MV.tup [nV x, nV (msk n (mem ps x))]).filter (fun _ => true) = (List.range n).map fun x => .tup [nV x, nV (msk n (mem ps x))] := List.filter_eq_self.mpr fun _ _ => rfl
  rw [e3, List.nil_append, List.map_map] at el
  have e4 : ((List.range n).map ((fun x : MV => match x with
    | .tup [.int i, .int m] => .int ((m.toNat ||| 2 ^ i.toNat : Nat) : Int)
    | _ => .non) ∘ fun x => MV.tup [nV x, nV (msk n (mem ps x))])) = mkL n fun x y => mem ps x y || decide (y = x) := by
    refine List.map_congr_left fun x hx => ?_
    have hx' := List.mem_range.mp hx
    show MV.int (((msk n (mem ps x) : Int).toNat ||| 2 ^ ((x : Nat) : Int).toNat : Nat) : Int) = nV (msk n fun y => mem ps x y || decide (y = x))
    rw [Int.toNat_natCast, Int.toNat_natCast, msk_one hx']
  rw [e4] at el
  have st : stOf (MV.tup (mkL n (mem ps))) = some (mkL n (mem ps)) := rfl
  unfold mkV at e1
  have l2 : (mkL n (mem ps)).length ≤ lim := by rw [mkL_len]; exact l1
  simp [f_at_least_masks, m_at_least_masks, e1, st, l2, ee, el, mkV]
theorem points_ {n : Nat} {h : MH} : ∀ (fuel k : Nat) (g : Nat → Bool) (acc : List MV), n ≤ k + fuel → k ≤ n → n ≤ 64 → acc.length ≤ k → (∀ j, j < k → g j = false) →
    whlG (truM (varM 0)) b1_points_in (fuel + 1) [some (nV (msk n g)), some (.ref h.length), none] (h ++ [.lst acc]) = some (.nx [some (nV 0), some (.ref h.length), none] (h ++ [.lst (acc ++ (fib n g).map nV)])) := by
  intro fuel
  induction fuel with
  | zero =>
    intro k g acc h1 h2 h3 h4 h5
    have hz : msk n g = 0 := msk_zero.mpr fun j hj => h5 j (by omega)
    have hf : fib n g = [] := fib_nil.mpr fun j hj => h5 j (by omega)
    rw [hz, hf]
    unfold whlG
    simp
  | succ fuel ih =>
    intro k g acc h1 h2 h3 h4 h5
    by_cases c : ∀ j, j < n → g j = false
    · have hz : msk n g = 0 := msk_zero.mpr c
      have hf : fib n g = [] := fib_nil.mpr c
      rw [hz, hf]
      unfold whlG
      simp
    · obtain ⟨p, hp, hg, hl⟩ : ∃ p, p < n ∧ g p = true ∧ ∀ j, j < p → g j = false := by
        have ex : ∃ j, j < n ∧ g j = true := by
          refine Classical.byContradiction fun z => c fun j hj => ?_
          cases q : g j with
          | false => rfl
          | true => exact absurd ⟨j, hj, q⟩ z
        obtain ⟨j, hj, hg⟩ := ex
        have : ∀ d p, p + d = n → (∀ j, j < p → g j = false) → ∃ p, p < n ∧ g p = true ∧ ∀ j, j < p → g j = false := by
          intro d
          induction d with
          | zero =>
            intro p hp hl
            have := hl j (by omega)
            rw [hg] at this
            cases this
          | succ d ihd =>
            intro p hp hl
            cases q : g p with
            | true => exact ⟨p, by omega, q, hl⟩
            | false =>
              refine ihd (p + 1) (by omega) fun i hi => ?_
              rcases Nat.lt_succ_iff_lt_or_eq.mp hi with z | z
              · exact hl i z
              · rw [z]
                exact q
        exact this n 0 (by omega) fun j z => absurd z (Nat.not_lt_zero _)
      have kp : k ≤ p := by
        refine Nat.le_of_not_lt fun z => ?_
        rw [h5 p z] at hg
        cases hg
      -- the mask is 2^(p+1) a + 2^p
      obtain ⟨g', hg'⟩ : ∃ g' : Nat → Bool, g' = fun j => g j && decide (j ≠ p) := ⟨_, rfl⟩
      obtain ⟨a, ha⟩ : ∃ a, msk n g' = 2 ^ (p + 1) * a := by
        refine ⟨msk n g' >>> (p + 1), ?_⟩
        apply Nat.eq_of_testBit_eq
        intro j
        rw [Nat.testBit_two_pow_mul, Nat.testBit_shiftRight, msk_bit]
        by_cases q : p + 1 ≤ j
        · rw [decide_eq_true (show j ≥ p + 1 from q), Bool.true_and, show p + 1 + (j - (p + 1)) = j by omega, msk_bit]
        · rw [decide_eq_false (show ¬ j ≥ p + 1 from q), Bool.false_and, hg']
          by_cases q2 : j = p
          · simp [q2]
          · simp [hl j (by omega)]
      have hm : msk n g = 2 ^ (p + 1) * a + 2 ^ p := by
        rw [← ha]
        apply Nat.eq_of_testBit_eq
        intro j
        rw [ha, Nat.testBit_two_pow_mul_add a (by rw [Nat.pow_succ]; have := Nat.two_pow_pos p; omega : 2 ^ p < 2 ^ (p + 1)), msk_bit]
        have hb : (msk n g').testBit j = (decide (j < n) && (g j && decide (j ≠ p))) := by rw [msk_bit, hg']
        rw [ha, Nat.testBit_two_pow_mul] at hb
        by_cases q : j < p + 1
        · rw [if_pos q, Nat.testBit_two_pow]
          by_cases q2 : j = p
          · subst q2
            simp [hp, hg]
          · have z1 : g j = false := hl j (by omega)
            have z2 : ¬ p = j := fun z => q2 z.symm
            simp [z1, z2]
        · rw [if_neg q]
          rw [decide_eq_true (show j ≥ p + 1 by omega), Bool.true_and] at hb
          rw [hb, decide_eq_true (show j ≠ p by omega), Bool.and_true]
      have ih' := ih (p + 1) g' (acc ++ [nV p]) (by omega) (by omega) h3 (by rw [List.length_append]; show acc.length + 1 ≤ _; omega) fun j hj => by
        rw [hg']
        by_cases q2 : j = p
        · simp [q2]
        · simp [hl j (by omega)]
      have hfib : fib n g = p :: fib n g' := by
        have e1 : n = p + 1 + (n - (p + 1)) := by omega
        unfold fib
        rw [e1, List.range_eq_range', ← List.range'_append_1, List.filter_append, List.filter_append, ← List.range_eq_range', List.range_succ, List.filter_append, List.filter_append]
        have z1 : (List.range p).filter g = [] := List.filter_eq_nil_iff.mpr fun j hj => by rw [hl j (List.mem_range.mp hj)]; exact Bool.false_ne_true
        have z2 : (List.range p).filter g' = [] := List.filter_eq_nil_iff.mpr fun j hj => by rw [hg']; simp [hl j (List.mem_range.mp hj)]
        have z3 : [p].filter g = [p] := by simp [hg]
        have z4 : [p].filter g' = [] := by rw [hg']; simp
        rw [z1, z2, z3, z4]
        simp only [List.nil_append, List.cons_append, Nat.zero_add]
        congr 1
        refine List.filter_congr fun j hj => ?_
        have := (List.mem_range'_1.mp hj).1
        rw [hg']
        simp
        intro _ z
        omega
      have h0 := Nat.two_pow_pos p
      obtain ⟨m, em⟩ : ∃ m, msk n g = m := ⟨_, rfl⟩
      obtain ⟨k2, ek⟩ : ∃ k2, msk n g' = k2 := ⟨_, rfl⟩
      have e1 : Builtin.bitAnd (m : Int) (-(m : Int)) = ((2 ^ p : Nat) : Int) := by
        rw [and_neg (k := k2) (by omega) (by rw [← em, hm, low_bit, ← ha, ek])]
        omega
      have e2 := bits_pow (p := p)
      obtain ⟨t, et⟩ : ∃ t, 2 ^ p = t := ⟨_, rfl⟩
      rw [et] at e1 e2
      have m0 : m ≠ 0 := by omega
      have e3 : (m : Int) - (t : Int) = (k2 : Int) := by omega
      have e4 : ((p : Int) + 1) - 1 = (p : Int) := by omega
      have l1 : acc.length < lim := by unfold lim; omega
      rw [hfib, em]
      rw [ek] at ih'
      unfold whlG
      have bd : b1_points_in [some (nV m), some (.ref h.length), none] (h ++ [.lst acc]) = some (.nx [some (nV k2), some (.ref h.length), none] (h ++ [.lst (acc ++ [nV p])])) := by
        simp [b1_points_in, e1, e2, e3, e4, l1]
      have tr : truM (varM 0) [some (nV m), some (.ref h.length), none] (h ++ [.lst acc]) = ok true (h ++ [.lst acc]) := by
        simp [m0]
      rw [tr, bndS_ok, if_pos rfl, bd]
      dsimp only
      rw [ih', List.append_assoc]
      rfl
theorem points_in {n : Nat} {g : Nat → Bool} {h : MH} (hn : n ≤ 64) : f_points_in [.int (msk n g : Int)] h = ok (.tup ((fib n g).map nV)) h := by
  have e := points_ (n := n) (h := h) 69 0 g [] (by omega) (by omega) hn (Nat.le_refl _) fun j z => absurd z (Nat.not_lt_zero _)
  refine cut_p (os := [.lst ((fib n g).map nV)]) ?_ clo_ns
  rw [List.nil_append] at e
  generalize msk n g = m at *
  simp [m_points_in, e]
theorem points_of {n : Nat} {g : Nat → Nat → Bool} {h : MH} (hn : n ≤ 64) : f_points_of [mkV n g] h = ok (.tup (tb n fun x => .tup ((fib n (g x)).map nV))) h := by
  have l1 : n ≤ lim := by unfold lim; omega
  have el := lc_y (i := 1) (f := fun x => nV (msk n (g x))) (el := callM f_points_in [] (consA (varM 1) nilA)) (s0 := [some (mkV n g), none]) (h := h) (fun x => .tup ((fib n (g x)).map nV)) (xs := List.range n) (by simpa using l1) fun x _ => by
    have e := points_in (g := g x) (h := h) hn
    generalize msk n (g x) = m at *
    simp [e]
  unfold mkV mkL tb at *
  simp [f_points_of, m_points_of, el, tb]
end Mi.k13
set_option maxHeartbeats 4000000
namespace Mi.k13
open PySem L2
theorem mem_prs {n x y : Nat} {f : Nat → Nat → Bool} (hx : x < n) (hy : y < n) : mem (prs n f) x y = f x y := by
  unfold mem
  rw [Bool.eq_iff_iff, decide_eq_true_iff, prs_mem]
  simp [hx, hy]
theorem in_prs {n : Nat} {f : Nat → Nat → Bool} : In n (prs n f) := fun p hp => ⟨(prs_mem.mp hp).1, (prs_mem.mp hp).2.1⟩
theorem high_o {n : Nat} {f : Nat → Nat → Bool} {h : MH} (hn : n ≤ 64) : f_high_masks [ordV n (prs n f)] h = ok (mkV n f) h := by
  rw [high_masks hn in_prs, mkV_congr fun x y hx hy => mem_prs hx hy]
theorem low_o {n : Nat} {f : Nat → Nat → Bool} {h : MH} (hn : n ≤ 64) : f_low_masks [ordV n (prs n f)] h = ok (mkV n fun x y => f y x) h := by
  rw [low_masks hn in_prs, mkV_congr fun x y hx hy => mem_prs hy hx]
theorem least_o {n : Nat} {f : Nat → Nat → Bool} {h : MH} (hn : n ≤ 64) : f_at_least_masks [ordV n (prs n f)] h = ok (mkV n fun x y => f x y || decide (y = x)) h := by
  rw [at_least_masks hn in_prs, mkV_congr fun x y hx hy => by rw [mem_prs hx hy]]
/-- y covers x -/
def cov (n : Nat) (f : Nat → Nat → Bool) (x y : Nat) : Bool := f x y && (List.range n).all fun z => !(f x z && f z y)
theorem cov_msk {n x y : Nat} {f : Nat → Nat → Bool} : decide (msk n (f x) &&& msk n (fun z => f z y) = 0) = (List.range n).all fun z => !(f x z && f z y) := by
  rw [Bool.eq_iff_iff, decide_eq_true_iff, msk_and, msk_zero, List.all_eq_true]
  simp
  constructor
  · intro h j hj
    cases c : f x j with
    | false => exact .inl rfl
    | true => exact .inr (h j hj c)
  · intro h j hj c
    rcases h j hj with z | z
    · rw [c] at z
      cases z
    · exact z
theorem filter_prs {n : Nat} {f : Nat → Nat → Bool} {c : Nat → Nat → Bool} : (prs n f).filter (fun p => c p.1 p.2) = prs n fun x y => f x y && c x y := by
  unfold prs
  rw [List.filter_flatMap]
  congr 1
  funext x
  unfold fib
  rw [List.filter_map, List.filter_filter]
  congr 1
  refine List.filter_congr fun y _ => ?_
  show (c x y && f x y) = _
  rw [Bool.and_comm]
theorem lc_u2 {i j : Nat} {cd : MM Bool} {el : ME} {s0 : MS} {h : MH} (c : Nat × Nat → Bool) (e : Nat × Nat → MV) {xs : List (Nat × Nat)} (hl : xs.length ≤ lim) (hs : ∀ p ∈ xs, cd ((s0.set i (some (nV p.1))).set j (some (nV p.2))) h = ok (c p) h ∧ (c p = true → el ((s0.set i (some (nV p.1))).set j (some (nV p.2))) h = ok (e p) h)) :
    lcS (unp [i, j]) cd el s0 (xs.map prV) [] h = ok ((xs.filter c).map e) h := by
  have : ∀ (xs : List (Nat × Nat)) (acc : List MV), (∀ p ∈ xs, cd ((s0.set i (some (nV p.1))).set j (some (nV p.2))) h = ok (c p) h ∧ (c p = true → el ((s0.set i (some (nV p.1))).set j (some (nV p.2))) h = ok (e p) h)) → acc.length + xs.length ≤ lim → lcS (unp [i, j]) cd el s0 (xs.map prV) acc h = ok (acc ++ (xs.filter c).map e) h := by
    intro xs
    induction xs with
    | nil =>
      intro acc _ _
      show _ = ok (acc ++ []) h
      rw [List.append_nil]
      rfl
    | cons x xs ih =>
      intro acc hs hl
      obtain ⟨e1, e2⟩ := hs x (List.mem_cons_self ..)
      rw [List.length_cons] at hl
      rw [List.map_cons]
      unfold lcS
      show (cd ((s0.set i (some (nV x.1))).set j (some (nV x.2))) h).bnd _ = _
      rw [e1, bnd_ok]
      cases hc : c x with
      | false =>
        rw [if_neg Bool.false_ne_true, ih acc (fun y hy => hs y (List.mem_cons_of_mem _ hy)) (by omega), List.filter_cons_of_neg (by rw [hc]; exact Bool.false_ne_true)]
      | true =>
        rw [if_pos rfl, e2 hc, bnd_ok, if_pos (by omega), ih (acc ++ [e x]) (fun y hy => hs y (List.mem_cons_of_mem _ hy)) (by rw [List.length_append]; show acc.length + 1 + xs.length ≤ lim; omega), List.filter_cons_of_pos hc, List.map_cons, List.append_assoc]
        rfl
  have t := this xs [] hs (by simpa using hl)
  rw [List.nil_append] at t
  exact t
theorem covers {n : Nat} {f : Nat → Nat → Bool} {h : MH} (hn : n ≤ 64) : f_covers [ordV n (prs n f)] h = ok (.tup ((prs n (cov n f)).map prV)) h := by
  have e1 := high_o (f := f) (h := h) hn
  have e2 := low_o (f := f) (h := h) hn
  have nn : n * n ≤ 4096 := Nat.mul_le_mul hn hn
  have ll := prs_len (n := n) (f := f)
  have el := lc_u2 (i := 3) (j := 4) (cd := tstM (opM eqF (opM andF (opM ixF (varM 1) (varM 3)) (opM ixF (varM 2) (varM 4))) (cM (.int 0)))) (el := tupM (consA (varM 3) (consA (varM 4) nilA))) (s0 := [some (ordV n (prs n f)), some (mkV n f), some (mkV n fun x y => f y x), none, none]) (h := h)
    (fun p => (List.range n).all fun z => !(f p.1 z && f z p.2)) prV (xs := prs n f) (by unfold lim; omega) fun p hp => by
      obtain ⟨h1, h2, _⟩ := prs_mem.mp hp
      have g1 := mkL_get (g := f) h1
      have g2 := mkL_get (g := fun x y => f y x) h2
      refine ⟨?_, fun _ => ?_⟩
      · rw [← cov_msk]
        generalize msk n (f p.1) = a at *
        generalize msk n (fun z => f z p.2) = b at *
        have e3 : eqB (.int ((a &&& b : Nat) : Int)) (.int 0) = some (decide (a &&& b = 0)) := by
          show some (decide (((a &&& b : Nat) : Int) = 0)) = _
          congr 1
          rw [Bool.eq_iff_iff, decide_eq_true_iff, decide_eq_true_iff]
          omega
        simp [mkV, atI_n, g1, g2, bitAnd_nat, e3]
      · simp [lim]
  have e4 := filter_prs (n := n) (f := f) (c := fun x y => (List.range n).all fun z => !(f x z && f z y))
  rw [e4] at el
  have e5 : (fun x y => f x y && (List.range n).all fun z => !(f x z && f z y)) = cov n f := rfl
  rw [e5] at el
  have e6 : atI [nV n, .tup ((prs n f).map prV)] 1 = some (.tup ((prs n f).map prV)) := atI_1
  have hm : m_covers [some (ordV n (prs n f)), none, none, none, none] h = some (.ret (.tup ((prs n (cov n f)).map prV)) h) := by
    unfold m_covers
    rw [seq_nx (s1 := [some (ordV n (prs n f)), some (mkV n f), none, none, none]) (h1 := h) (by simp [e1]), seq_nx (s1 := [some (ordV n (prs n f)), some (mkV n f), some (mkV n fun x y => f y x), none, none]) (h1 := h) (by simp [e2])]
    have ei : ixF (ordV n (prs n f)) (.int 1) h = ok (.tup ((prs n f).map prV)) h := by simp [ordV, atI_1]
    simp only [retS, bltM, consA, flsM, lcM, seqI, opM, varM, slot, may, cM, bnd_ok, ei, wipeM, List.set_cons_succ, List.set_cons_zero]
    rw [el]
    rfl
  exact defM_ret rfl hm
/-- what covers a point or is covered by it -/
theorem neigh {n : Nat} {f : Nat → Nat → Bool} {h : MH} (hn : n ≤ 64) : f_cover_neighbours [ordV n (prs n f)] h = ok (mkV n fun x y => cov n f x y || cov n f y x) h := by
  have e1 := covers (f := f) (h := h) hn
  have e2 := high_o (f := cov n f) (h := h) hn
  have e3 := low_o (f := cov n f) (h := h) hn
  have l1 : n ≤ lim := by unfold lim; omega
  have el := lc_y (i := 4) (f := nV) (el := opM orF (opM ixF (varM 2) (varM 4)) (opM ixF (varM 3) (varM 4))) (s0 := [some (ordV n (prs n f)), some (ordV n (prs n (cov n f))), some (mkV n (cov n f)), some (mkV n fun x y => cov n f y x), none]) (h := h)
    (fun x => nV (msk n fun y => cov n f x y || cov n f y x)) (xs := List.range n) (by simpa using l1) fun x hx => by
      have hx' := List.mem_range.mp hx
      have g1 := mkL_get (g := cov n f) hx'
      have g2 := mkL_get (g := fun x y => cov n f y x) hx'
      rw [← msk_or]
      generalize msk n (cov n f x) = a at *
      generalize msk n (fun z => cov n f z x) = b at *
      simp [mkV, atI_n, g1, g2, bitOr_nat]
  refine defM_ret rfl ?_
  show m_cover_neighbours [some (ordV n (prs n f)), none, none, none, none] h = _
  unfold m_cover_neighbours
  have i0 : ∀ ps, ixF (ordV n ps) (.int 0) h = ok (nV n) h := fun ps => by simp [ordV, atI_0]
  rw [seq_nx (s1 := [some (ordV n (prs n f)), some (ordV n (prs n (cov n f))), none, none, none]) (h1 := h) (by
    have e1' := e1
    unfold ordV at e1'
    simp [ordV, atI_0, e1', lim]), seq_nx (s1 := [some (ordV n (prs n f)), some (ordV n (prs n (cov n f))), some (mkV n (cov n f)), none, none]) (h1 := h) (by simp [e2]),
    seq_nx (s1 := [some (ordV n (prs n f)), some (ordV n (prs n (cov n f))), some (mkV n (cov n f)), some (mkV n fun x y => cov n f y x), none]) (h1 := h) (by simp [e3])]
  have rg := rng1_n (n := n) (h := h) (by omega)
  simp only [retS, bltM, consA, flsM, lcM, rng1, opM, varM, slot, may, cM, nilA, bnd_ok, i0, rg, wipeM, List.set_cons_succ, List.set_cons_zero]
  rw [el]
  rfl
/-- reach[a] >> b & 1 -/
theorem tst_mk {a b : ME} {n x y : Nat} {g : Nat → Nat → Bool} {s : MS} {h : MH} (ha : a s h = ok (.int (msk n (g x) : Int)) h) (hb : b s h = ok (.int (y : Int)) h) (hy : y < n) : (truM (opM andF (opM shrF a b) (cM (.int 1)))) s h = ok (g x y) h := by
  rw [tst_bit ha hb, msk_bit, decide_eq_true hy, Bool.true_and]
theorem fits_ {n m x v : Nat} {r A B : List Nat} {g : Nat → Nat → Bool} {p : Nat} {h : MH} (hr : h[p]? = some (.lst (r.map nV))) (hm : Mp n m r) (hx : r[x]? = some v) (hA : ∀ y ∈ A, y < n) (hB : ∀ y ∈ B, y < n) :
    f_fits [.ref p, .int (x : Int), .tup (A.map nV), .tup (B.map nV), mkV m g] h = ok (.bl ((A.all fun y => g v (r.getD y 0)) && B.all fun y => g (r.getD y 0) v)) h := by
  have hv : v < m := hm.lt v (List.mem_of_getElem? hx)
  have rd : ∀ y, y < n → ∃ w, r[y]? = some w ∧ r.getD y 0 = w ∧ w < m := fun y hy => by
    obtain ⟨w, hw, hl⟩ := hm.at hy
    exact ⟨w, hw, by rw [List.getD_eq_getElem?_getD, hw]; rfl, hl⟩
  have e1 := for_all (bd := turnM (one 5) b1_fits) (f := nV) (s := [some (.ref p), some (nV x), some (.tup (A.map nV)), some (.tup (B.map nV)), some (mkV m g), none]) (h := h) (fun y => g v (r.getD y 0)) (.bl false) (xs := A) fun y hy => by
    obtain ⟨w, hw, e, hl⟩ := rd y (hA y hy)
    have g1 := mkL_get (g := g) hv
    have t := tst_mk (a := opM ixF (varM 4) (opM ixF (varM 0) (varM 1))) (b := opM ixF (varM 0) (varM 5)) (n := m) (x := v) (y := w) (g := g) (s := [some (.ref p), some (nV x), some (.tup (A.map nV)), some (.tup (B.map nV)), some (mkV m g), some (nV y)]) (h := h) (by
      generalize msk m (g v) = a at *
      simp [hr, atI_n, hx, mkV, g1]) (by simp [hr, atI_n, hw]) hl
    rw [e]
    cases c : g v w <;> rw [c] at t <;> simp [b1_fits, notT] <;> simp at t <;> simp [t]
  have e2 := for_all (bd := turnM (one 5) b2_fits) (f := nV) (s := [some (.ref p), some (nV x), some (.tup (A.map nV)), some (.tup (B.map nV)), some (mkV m g), none]) (h := h) (fun y => g (r.getD y 0) v) (.bl false) (xs := B) fun y hy => by
    obtain ⟨w, hw, e, hl⟩ := rd y (hB y hy)
    have g1 := mkL_get (g := g) hl
    have t := tst_mk (a := opM ixF (varM 4) (opM ixF (varM 0) (varM 5))) (b := opM ixF (varM 0) (varM 1)) (n := m) (x := w) (y := v) (g := g) (s := [some (.ref p), some (nV x), some (.tup (A.map nV)), some (.tup (B.map nV)), some (mkV m g), some (nV y)]) (h := h) (by
      generalize msk m (g w) = a at *
      simp [hr, atI_n, hw, mkV, g1]) (by simp [hr, atI_n, hx]) hv
    rw [e]
    cases c : g w v <;> rw [c] at t <;> simp [b2_fits, notT] <;> simp at t <;> simp [t]
  cases c1 : A.all fun y => g v (r.getD y 0) with
  | false =>
    rw [c1, if_neg Bool.false_ne_true] at e1
    simp [f_fits, m_fits, e1]
  | true =>
    rw [c1, if_pos rfl] at e1
    cases c2 : B.all fun y => g (r.getD y 0) v with
    | false =>
      rw [c2, if_neg Bool.false_ne_true] at e2
      simp [f_fits, m_fits, e1, e2]
    | true =>
      rw [c2, if_pos rfl] at e2
      simp [f_fits, m_fits, e1, e2]
end Mi.k13
set_option maxHeartbeats 4000000
namespace Mi.k13
open PySem L2
/-- whether the map rises when x is taken to v -/
def fitB (n : Nat) (f g : Nat → Nat → Bool) (r : List Nat) (x v : Nat) : Bool := ((fib n (f x)).all fun y => leB g v (r.getD y 0)) && (fib n fun y => f y x).all fun y => leB g (r.getD y 0) v
def okS (n m : Nat) (f g : Nat → Nat → Bool) (r : List Nat) (x v : Nat) : Bool := (cov m g (r.getD x 0) v || cov m g v (r.getD x 0)) && fitB n f g r x v
theorem cov_ {m a b : Nat} {g : Nat → Nat → Bool} {h : MH} (hm : m ≤ 64) (ha : a < m) (hb : b < m) : f_law_covers [matV m m g, .int (a : Int), .int (b : Int)] h = ok (.bl (cov m g a b)) h := by
  have l1 : m ≤ lim := by unfold lim; omega
  have q1 : (m : Int) ≤ 1000000 := by omega
  have q2 : (-1000000 : Int) ≤ m := by omega
  have t1 : ∀ x, x < m → (tb m fun x => MV.fls (tb m fun y => MV.bl (g x y)))[x]? = some (.fls (tb m fun y => .bl (g x y))) := fun x hx => tb_get hx
  have t2 : ∀ x y, y < m → (tb m fun y => MV.bl (g x y))[y]? = some (.bl (g x y)) := fun x y hy => tb_get hy
  have el := lc_p (i := 3) (f := nV) (cd := andT (truM (opM ixF (opM ixF (varM 0) (varM 1)) (varM 3))) (truM (opM ixF (opM ixF (varM 0) (varM 3)) (varM 2)))) (el := varM 3) (s0 := [some (matV m m g), some (nV a), some (nV b), none]) (h := h) (fun z => g a z && g z b) nV (xs := List.range m) (by simpa using l1) fun z hz => by
    have hz' := List.mem_range.mp hz
    refine ⟨?_, fun _ => by simp⟩
    cases c : g a z <;> simp [matV, atI_n, t1 a ha, t1 z hz', t2 a z hz', t2 z b hb, c]
  rw [← run_m] at el
  have e0 : g a b = true → cov m g a b = decide (((List.range m).filter fun z => g a z && g z b).length = 0) := fun c => by
    unfold cov
    rw [c, Bool.true_and, Bool.eq_iff_iff, List.all_eq_true, decide_eq_true_iff, List.length_eq_zero_iff, List.filter_eq_nil_iff]
    simp
    constructor
    · intro k z hz c1
      rcases k z hz with w | w
      · rw [c1] at w
        cases w
      · exact w
    · intro k z hz
      cases c1 : g a z with
      | false => exact .inl rfl
      | true => exact .inr (k z hz c1)
  have ll : (tb m fun x => MV.fls (tb m fun y => MV.bl (g x y))).length = m := tb_len
  cases c : g a b with
  | false =>
    have : cov m g a b = false := by
      unfold cov
      rw [c, Bool.false_and]
    rw [this]
    simp [f_law_covers, m_law_covers, matV, atI_n, t1 a ha, t2 a b hb, c]
  | true =>
    rw [e0 c]
    generalize ((List.range m).filter fun z => g a z && g z b) = zs at el ⊢
    unfold matV at el ⊢
    have e5 : eqB (.int (zs.length : Int)) (.int 0) = some (decide (zs.length = 0)) := by
      show some (decide ((zs.length : Int) = 0)) = _
      congr 1
      rw [Bool.eq_iff_iff, decide_eq_true_iff, decide_eq_true_iff]
      omega
    simp [f_law_covers, m_law_covers, atI_n, t1 a ha, t2 a b hb, c, ll, q1, q2, el, e5]
theorem lfits {n m x v : Nat} {f g : Nat → Nat → Bool} {L L2 r : List Nat} {h : MH} (o1 : Ow n f L) (o2 : Ow m g L2) (hr : Mp n m r) (hx : x < n) (hv : v < m) : f_law_fits [owV n f L, owV m g L2, .tup (r.map nV), .int (x : Int), .int (v : Int)] h = ok (.bl (fitB n f g r x v)) h := by
  have rd : ∀ y, y < n → ∃ w, r[y]? = some w ∧ r.getD y 0 = w ∧ w < m := fun y hy => by
    obtain ⟨w, hw, hl⟩ := hr.at hy
    exact ⟨w, hw, by rw [List.getD_eq_getElem?_getD, hw]; rfl, hl⟩
  have t1 : ∀ x, x < n → (tb n fun x => MV.fls (tb n fun y => MV.bl (f x y)))[x]? = some (.fls (tb n fun y => .bl (f x y))) := fun x hx => tb_get hx
  have t2 : ∀ x y, y < n → (tb n fun y => MV.bl (f x y))[y]? = some (.bl (f x y)) := fun x y hy => tb_get hy
  have e1 := for_all (bd := turnM (one 6) b1_law_fits) (f := nV) (s := [some (owV n f L), some (owV m g L2), some (.tup (r.map nV)), some (nV x), some (nV v), some (matV m m g), none]) (h := h) (fun y => (!f y x || leB g (r.getD y 0) v) && (!f x y || leB g v (r.getD y 0))) (.bl false) (xs := fib n fun y => f x y || f y x) fun y hy => by
    have hy' := (fib_mem.mp hy).1
    obtain ⟨w, hw, e, hl⟩ := rd y hy'
    rw [e]
    have a1 := at_most_ (g := g) (h := h) hl hv
    have a2 := at_most_ (g := g) (h := h) hv hl
    cases c1 : f y x <;> cases c2 : f x y <;> cases c3 : leB g w v <;> cases c4 : leB g v w <;> rw [c3] at a1 <;> rw [c4] at a2 <;> unfold matV at a1 a2 <;> simp [b1_law_fits, owV, atI_1, matV, atI_n, t1 x hx, t1 y hy', t2 x y hy', t2 y x hx, c1, c2, hw, a1, a2]
  have e2 : ((fib n fun y => f x y || f y x).all fun y => (!f y x || leB g (r.getD y 0) v) && (!f x y || leB g v (r.getD y 0))) = fitB n f g r x v := by
    unfold fitB
    rw [Bool.eq_iff_iff, Bool.and_eq_true, List.all_eq_true, List.all_eq_true, List.all_eq_true]
    constructor
    · intro k
      refine ⟨fun y hy => ?_, fun y hy => ?_⟩
      · obtain ⟨h1, h2⟩ := fib_mem.mp hy
        have := k y (fib_mem.mpr ⟨h1, by rw [h2]; rfl⟩)
        rw [Bool.and_eq_true, h2] at this
        simpa using this.2
      · obtain ⟨h1, h2⟩ := fib_mem.mp hy
        have := k y (fib_mem.mpr ⟨h1, by rw [h2, Bool.or_true]⟩)
        rw [Bool.and_eq_true, h2] at this
        simpa using this.1
    · intro ⟨k1, k2⟩ y hy
      obtain ⟨h1, h2⟩ := fib_mem.mp hy
      rw [Bool.and_eq_true]
      constructor
      · cases c : f y x with
        | false => rfl
        | true => exact k2 y (fib_mem.mpr ⟨h1, c⟩)
      · cases c : f x y with
        | false => rfl
        | true => exact k1 y (fib_mem.mpr ⟨h1, c⟩)
  rw [e2] at e1
  have en : ((List.range n).map fun x => MV.fls ((fib n fun y => f x y || f y x).map nV))[x]? = some (.fls ((fib n fun y => f x y || f y x).map nV)) := by
    rw [List.getElem?_map, List.getElem?_range hx]
    rfl
  unfold owV nearV at *
  cases c : fitB n f g r x v with
  | false =>
    rw [c, if_neg Bool.false_ne_true] at e1
    simp [f_law_fits, m_law_fits, atI_1, atI_3, atI_n, en, e1]
  | true =>
    rw [c, if_pos rfl] at e1
    simp [f_law_fits, m_law_fits, atI_1, atI_3, atI_n, en, e1]
/-- what a step is -/
def kindS (n m : Nat) (f g : Nat → Nat → Bool) (r : List Nat) (x v : Nat) : Str :=
  if r.getD x 0 = v then "same" else if (cov m g (r.getD x 0) v || cov m g v (r.getD x 0)) = true then (if fitB n f g r x v = true then "good" else "stuck") else if fitB n f g r x v = false then "rough" else if (g (r.getD x 0) v || g v (r.getD x 0)) = true then "far" else "apart"
theorem kind_ {n m x v : Nat} {f g : Nat → Nat → Bool} {L L2 r : List Nat} {h : MH} (o1 : Ow n f L) (o2 : Ow m g L2) (hr : Mp n m r) (hx : x < n) (hv : v < m) : f_law_kind [owV n f L, owV m g L2, .tup (r.map nV), .int (x : Int), .int (v : Int)] h = ok (.str (kindS n m f g r x v)) h := by
  obtain ⟨w, hw, hl⟩ := hr.at hx
  have ew : r.getD x 0 = w := by rw [List.getD_eq_getElem?_getD, hw]; rfl
  have e1 := lfits (h := h) o1 o2 hr hx hv
  have c1 := cov_ (g := g) (h := h) o2.le hl hv
  have c2 := cov_ (g := g) (h := h) o2.le hv hl
  have t1 : ∀ x, x < m → (tb m fun x => MV.fls (tb m fun y => MV.bl (g x y)))[x]? = some (.fls (tb m fun y => .bl (g x y))) := fun x hx => tb_get hx
  have t2 : ∀ x y, y < m → (tb m fun y => MV.bl (g x y))[y]? = some (.bl (g x y)) := fun x y hy => tb_get hy
  unfold kindS
  rw [ew]
  have i1 : ixF (owV m g L2) (.int 1) h = ok (matV m m g) h := by simp [owV, atI_1]
  have i2 : ixF (.tup (r.map nV)) (.int (x : Int)) h = ok (nV w) h := by simp [atI_n, hw]
  have hm1 : ∀ R, (seqS (ifS (tstM (opM eqF (varM 6) (varM 4))) (retS (cM (.str "same"))) nilS) R) [some (owV n f L), some (owV m g L2), some (.tup (r.map nV)), some (nV x), some (nV v), some (matV m m g), some (nV w), none] h =
      if w = v then some (.ret (.str "same") h) else R [some (owV n f L), some (owV m g L2), some (.tup (r.map nV)), some (nV x), some (nV v), some (matV m m g), some (nV w), none] h := fun R => by
    by_cases c : w = v
    · subst c
      simp [eqB]
    · have c' : ¬ ((w : Int) = (v : Int)) := by omega
      simp [eqB, c, c']
  have goal : ∀ res, m_law_kind [some (owV n f L), some (owV m g L2), some (.tup (r.map nV)), some (nV x), some (nV v), none, none, none] h = some (.ret res h) → f_law_kind [owV n f L, owV m g L2, .tup (r.map nV), .int (x : Int), .int (v : Int)] h = ok res h := fun res e => defM_ret rfl e
  refine goal _ ?_
  unfold m_law_kind
  have s1 : setS 5 (opM ixF (varM 1) (cM (.int 1))) [some (owV n f L), some (owV m g L2), some (.tup (r.map nV)), some (nV x), some (nV v), none, none, none] h = some (.nx [some (owV n f L), some (owV m g L2), some (.tup (r.map nV)), some (nV x), some (nV v), some (matV m m g), none, none] h) := by
    simp only [setS, opM, varM, slot, may, cM, bnd_ok, i1, bndS_ok]
    rfl
  have s2 : setS 6 (opM ixF (varM 2) (varM 3)) [some (owV n f L), some (owV m g L2), some (.tup (r.map nV)), some (nV x), some (nV v), some (matV m m g), none, none] h = some (.nx [some (owV n f L), some (owV m g L2), some (.tup (r.map nV)), some (nV x), some (nV v), some (matV m m g), some (nV w), none] h) := by
    simp only [setS, opM, varM, slot, may, cM, bnd_ok, i2, bndS_ok]
    rfl
  rw [seq_nx s1, seq_nx s2, hm1]
  by_cases c : w = v
  · rw [if_pos c, if_pos c]
  rw [if_neg c, if_neg c]
  have s3 : setS 7 (callM f_law_fits [] (consA (varM 0) (consA (varM 1) (consA (varM 2) (consA (varM 3) (consA (varM 4) nilA)))))) [some (owV n f L), some (owV m g L2), some (.tup (r.map nV)), some (nV x), some (nV v), some (matV m m g), some (nV w), none] h = some (.nx [some (owV n f L), some (owV m g L2), some (.tup (r.map nV)), some (nV x), some (nV v), some (matV m m g), some (nV w), some (.bl (fitB n f g r x v))] h) := by
    simp [e1]
  rw [seq_nx s3]
  cases z1 : cov m g w v <;> cases z2 : cov m g v w <;> cases z3 : fitB n f g r x v <;> cases z4 : g w v <;> cases z5 : g v w <;> rw [z1] at c1 <;> rw [z2] at c2 <;> unfold matV at c1 c2 ⊢ <;> simp [c1, c2, atI_0, atI_1, lim, atI_n, t1 w hl, t1 v hv, t2 w v hv, t2 v w hl, z4, z5]
theorem good_iff {n m x v : Nat} {f g : Nat → Nat → Bool} {r : List Nat} (hg : ∀ a, g a a = false) : kindS n m f g r x v = "good" ↔ okS n m f g r x v = true := by
  have d1 : ¬ ("same" : Str) = "good" := by decide
  have d2 : ¬ ("stuck" : Str) = "good" := by decide
  have d3 : ¬ ("rough" : Str) = "good" := by decide
  have d4 : ¬ ("far" : Str) = "good" := by decide
  have d5 : ¬ ("apart" : Str) = "good" := by decide
  unfold kindS okS
  by_cases c : r.getD x 0 = v
  · rw [if_pos c, c]
    have : cov m g v v = false := by
      unfold cov
      rw [hg, Bool.false_and]
    rw [this]
    simp [d1]
  · rw [if_neg c]
    cases z1 : (cov m g (r.getD x 0) v || cov m g v (r.getD x 0)) with
    | true => cases z3 : fitB n f g r x v <;> simp [d2]
    | false =>
      cases z3 : fitB n f g r x v with
      | false => simp [d3]
      | true =>
        rw [if_neg Bool.false_ne_true, if_neg (by simp), Bool.false_and]
        by_cases z : (g (r.getD x 0) v || g v (r.getD x 0)) = true
        · rw [if_pos z]
          simp [d4]
        · rw [if_neg z]
          simp [d5]
end Mi.k13
set_option maxHeartbeats 4000000
namespace Mi.k13
open PySem L2
/-- all steps of a kind -/
def stepsK (n m k : Nat) (f g : Nat → Nat → Bool) (r : List Nat) (kd : Str) (j : Nat) : List (Nat × Nat) := (List.range j).flatMap fun x => ((List.range m).filter fun v => decide (kindS n m f g r x v = kd)).map fun v => (x, v)
def stepsOf (n m : Nat) (f g : Nat → Nat → Bool) (r : List Nat) (kd : Str) : List (Nat × Nat) := stepsK n m 0 f g r kd n
theorem steps_upto {n m j : Nat} {f g : Nat → Nat → Bool} {r : List Nat} {kd : Str} : (stepsK n m 0 f g r kd j).length ≤ j * m := by
  induction j with
  | zero => simp [stepsK]
  | succ j ih =>
    have : ((List.range m).filter fun v => decide (kindS n m f g r j v = kd)).length ≤ m := Nat.le_trans (List.length_filter_le _ _) (by simp)
    unfold stepsK at ih ⊢
    rw [List.range_succ, List.flatMap_append, List.length_append, Nat.succ_mul]
    simp only [List.flatMap_cons, List.flatMap_nil, List.append_nil, List.length_map]
    omega
theorem steps_mem {n m : Nat} {f g : Nat → Nat → Bool} {r : List Nat} {kd : Str} {p : Nat × Nat} : p ∈ stepsOf n m f g r kd ↔ p.1 < n ∧ p.2 < m ∧ kindS n m f g r p.1 p.2 = kd := by
  unfold stepsOf stepsK
  rw [List.mem_flatMap]
  constructor
  · rintro ⟨x, hx, h⟩
    obtain ⟨v, hv, e⟩ := List.mem_map.mp h
    obtain ⟨h1, h2⟩ := List.mem_filter.mp hv
    subst e
    exact ⟨List.mem_range.mp hx, List.mem_range.mp h1, of_decide_eq_true h2⟩
  · rintro ⟨h1, h2, h3⟩
    exact ⟨p.1, List.mem_range.mpr h1, List.mem_map.mpr ⟨p.2, List.mem_filter.mpr ⟨List.mem_range.mpr h2, decide_eq_true h3⟩, rfl⟩⟩
theorem steps_of {n m : Nat} {f g : Nat → Nat → Bool} {L L2 r : List Nat} {kd : Str} {h : MH} (o1 : Ow n f L) (o2 : Ow m g L2) (hr : Mp n m r) : f_law_steps_of [owV n f L, owV m g L2, .tup (r.map nV), .str kd] h = ok (.fls ((stepsOf n m f g r kd).map prV)) h := by
  have hn := o1.le
  have hm := o2.le
  have q1 : (n : Int) ≤ 1000000 := by omega
  have q2 : (-1000000 : Int) ≤ n := by omega
  have q3 : (m : Int) ≤ 1000000 := by omega
  have q4 : (-1000000 : Int) ≤ m := by omega
  have nm : n * m ≤ 4096 := Nat.mul_le_mul hn hm
  have l2 : m ≤ lim := by unfold lim; omega
  obtain ⟨k, e, hk⟩ := for_m (f := nV) (bd := turnM (one 5) b1_law_steps_of) (xs := List.range n) (fun k : Nat => [some (owV n f L), some (owV m g L2), some (.tup (r.map nV)), some (.str kd), some (.fls ((stepsK n m 0 f g r kd k).map prV)), none, none])
    (fun _ => h) (fun i k => k = i) (a0 := 0) rfl fun i x k hx hk => by
      obtain ⟨hi, ex⟩ := List.getElem?_eq_some_iff.mp hx
      rw [List.getElem_range] at ex
      subst ex
      subst hk
      have hi' : k < n := by simpa using hi
      refine ⟨k + 1, .inl ?_, rfl⟩
      have el := lc_p (i := 6) (f := nV) (cd := tstM (opM eqF (callM f_law_kind [] (consA (varM 0) (consA (varM 1) (consA (varM 2) (consA (varM 5) (consA (varM 6) nilA)))))) (varM 3))) (el := tupM (consA (varM 5) (consA (varM 6) nilA))) (s0 := [some (owV n f L), some (owV m g L2), some (.tup (r.map nV)), some (.str kd), some (.fls ((stepsK n m 0 f g r kd k).map prV)), some (nV k), none])
        (h := h) (fun v => decide (kindS n m f g r k v = kd)) (fun v => prV (k, v)) (xs := List.range m) (by simpa using l2) fun v hv => by
          have hv' := List.mem_range.mp hv
          have e1 := kind_ (h := h) o1 o2 hr hi' hv'
          refine ⟨?_, fun _ => by simp [lim]⟩
          simp [e1, eqB]
      have e9 : ((stepsK n m 0 f g r kd k).map prV) ++ ((List.range m).filter fun v => decide (kindS n m f g r k v = kd)).map (fun v => prV (k, v)) = (stepsK n m 0 f g r kd (k + 1)).map prV := by
        unfold stepsK
        rw [List.range_succ, List.flatMap_append, List.map_append]
        simp
      have l3 := steps_upto (n := n) (m := m) (f := f) (g := g) (r := r) (kd := kd) (j := k + 1)
      have l4 : (k + 1) * m ≤ n * m := Nat.mul_le_mul hi' (Nat.le_refl m)
      have l6 : (((stepsK n m 0 f g r kd k).map prV) ++ ((List.range m).filter fun v => decide (kindS n m f g r k v = kd)).map (fun v => prV (k, v))).length ≤ 4096 := by
        rw [e9, List.length_map]
        omega
      rw [List.length_append, List.length_map, List.length_map] at l6
      have l5 : (stepsK n m 0 f g r kd k).length + ((List.range m).filter fun v => decide (kindS n m f g r k v = kd)).length ≤ lim := by
        unfold lim
        omega
      rw [← e9]
      have i1 : ixF (owV m g L2) (.int 1) h = ok (matV m m g) h := by simp [owV, atI_1]
      have ll : (tb m fun x => MV.fls (tb m fun y => MV.bl (g x y))).length = m := tb_len
      rw [← run_m] at el
      generalize (stepsK n m 0 f g r kd k) = ps at *
      unfold owV at el
      simp [b1_law_steps_of, owV, atI_1, matV, ll, q3, q4]
      unfold matV at el
      simp [el, l5]
  rw [List.length_range] at hk
  subst hk
  have e' : forS (turnM (one 5) b1_law_steps_of) ((List.range k).map nV) [some (owV k f L), some (owV m g L2), some (.tup (r.map nV)), some (.str kd), some (.fls []), none, none] h = some (.nx [some (owV k f L), some (owV m g L2), some (.tup (r.map nV)), some (.str kd), some (.fls ((stepsOf k m f g r kd).map prV)), none, none] h) := e
  have hl := hr.len
  rw [← run_m] at e'
  simp [f_law_steps_of, m_law_steps_of, hl, q1, q2, e']
/-- an allowed step, by whole numbers -/
def GoodI (n m : Nat) (f g : Nat → Nat → Bool) (r : List Nat) (a b : Int) : Prop := ∃ x v : Nat, a = (x : Int) ∧ b = (v : Int) ∧ x < n ∧ v < m ∧ okS n m f g r x v = true
/-- one of four: more, less, far off -/
theorem four {x n : Nat} {d : Nat} (hd : d < 4) (hx : x < n ∨ x = 0) (hn : n ≤ 64) : ∃ a : Int, ([MV.int ((x : Int) + (n : Int)), MV.int ((x : Int) - (n : Int)), MV.int 100000000000000000000000000000000000000000000000000000000000, MV.int (-100000000000000000000000000000000000000000000000000000000000)] : List MV)[d]? = some (.int a) ∧ ∀ y : Nat, y < n → a ≠ (y : Int) := by
  rcases (show d = 0 ∨ d = 1 ∨ d = 2 ∨ d = 3 by omega) with e | e | e | e <;> subst e
  · exact ⟨_, rfl, fun y hy z => by omega⟩
  · exact ⟨_, rfl, fun y hy z => by omega⟩
  · exact ⟨_, rfl, fun y hy z => by omega⟩
  · exact ⟨_, rfl, fun y hy z => by omega⟩
end Mi.k13
set_option maxHeartbeats 4000000
namespace Mi.k13
open PySem L2
theorem draw7 {S os : MH} (hS : St S) : ∃ (ks : Str) (S' : MH), opM ixF (flsM (lstM (consA (cM (.str "same")) (consA (cM (.str "far")) (consA (cM (.str "apart")) (consA (cM (.str "stuck")) (consA (cM (.str "rough")) (consA (cM (.str "point")) (consA (cM (.str "value")) nilA))))))))) (fun _ h => f_law_draw [.ref 0, .int 7] h) [] (S ++ os) = ok (.str ks) (S' ++ os) ∧ (ks ≠ "good") ∧ St S' := by
  obtain ⟨d, S1, e, hd, h1⟩ := draw (os := os) (m := 7) hS (by omega) (by omega)
  have e' : f_law_draw [.ref 0, .int 7] (S ++ os) = ok (.int (d : Int)) (S1 ++ os) := e
  rcases (show d = 0 ∨ d = 1 ∨ d = 2 ∨ d = 3 ∨ d = 4 ∨ d = 5 ∨ d = 6 by omega) with z | z | z | z | z | z | z <;> subst z
  · exact ⟨"same", S1, by simp [e', lim, atI_0], by decide, h1⟩
  · exact ⟨"far", S1, by simp [e', lim, atI_1], by decide, h1⟩
  · exact ⟨"apart", S1, by simp [e', lim, atI_2], by decide, h1⟩
  · exact ⟨"stuck", S1, by simp [e', lim, atI_3], by decide, h1⟩
  · exact ⟨"rough", S1, by simp [e', lim, atI_4], by decide, h1⟩
  · exact ⟨"point", S1, by simp [e', lim, atI_5], by decide, h1⟩
  · exact ⟨"value", S1, by simp [e', lim, atI_6], by decide, h1⟩
theorem wrong {S os : MH} {n m : Nat} {f g : Nat → Nat → Bool} {L L2 r : List Nat} (hS : St S) (o1 : Ow n f L) (o2 : Ow m g L2) (hr : Mp n m r) : ∃ (a b : Int) (S' : MH),
    f_law_wrong [.ref 0, owV n f L, owV m g L2, .tup (r.map nV)] (S ++ os) = ok (.tup [.int a, .int b]) (S' ++ os) ∧ ¬ GoodI n m f g r a b ∧ St S' := by
  have hn := o1.le
  have hm := o2.le
  have hlr : r.length = n := hr.len
  have lmt : (tb m fun x => MV.fls (tb m fun y => MV.bl (g x y))).length = m := tb_len
  have nm : n * m ≤ 4096 := Nat.mul_le_mul hn hm
  have len : ∀ kd, (stepsOf n m f g r kd).length ≤ 4096 := fun kd => Nat.le_trans steps_upto nm
  obtain ⟨ks, S1, e1, hks, h1⟩ := draw7 (os := os) hS
  have s1 : setS 4 (bltM lenF (consA (varM 3) nilA)) [some (.ref 0), some (owV n f L), some (owV m g L2), some (.tup (r.map nV)), none, none, none, none, none, none] (S ++ os) = some (.nx [some (.ref 0), some (owV n f L), some (owV m g L2), some (.tup (r.map nV)), some (nV n), none, none, none, none, none] (S ++ os)) := by
    simp [hlr]
  have s2 : setS 5 (bltM lenF (consA (opM ixF (varM 2) (cM (.int 1))) nilA)) [some (.ref 0), some (owV n f L), some (owV m g L2), some (.tup (r.map nV)), some (nV n), none, none, none, none, none] (S ++ os) = some (.nx [some (.ref 0), some (owV n f L), some (owV m g L2), some (.tup (r.map nV)), some (nV n), some (nV m), none, none, none, none] (S ++ os)) := by
    simp [owV, atI_1, matV, lmt]
  have s3 : setS 6 (opM ixF (flsM (lstM (consA (cM (.str "same")) (consA (cM (.str "far")) (consA (cM (.str "apart")) (consA (cM (.str "stuck")) (consA (cM (.str "rough")) (consA (cM (.str "point")) (consA (cM (.str "value")) nilA))))))))) (callM f_law_draw [] (consA (varM 0) (consA (cM (.int 7)) nilA)))) [some (.ref 0), some (owV n f L), some (owV m g L2), some (.tup (r.map nV)), some (nV n), some (nV m), none, none, none, none] (S ++ os) =
      some (.nx [some (.ref 0), some (owV n f L), some (owV m g L2), some (.tup (r.map nV)), some (nV n), some (nV m), some (.str ks), none, none, none] (S1 ++ os)) := by
    obtain ⟨d, S2, e, hd, h2⟩ := draw (os := os) (m := 7) hS (by omega) (by omega)
    have e' : f_law_draw [.ref 0, .int 7] (S ++ os) = ok (.int (d : Int)) (S2 ++ os) := e
    simp [e', lim] at e1 ⊢
    generalize hq : atI [MV.str "same", MV.str "far", MV.str "apart", MV.str "stuck", MV.str "rough", MV.str "point", MV.str "value"] (d : Int) = q at e1 ⊢
    cases q with
    | none => cases e1
    | some y =>
      have e2 : ok y (S2 ++ os) = ok (.str ks) (S1 ++ os) := e1
      rw [ok_inj] at e2
      rw [e2.1, e2.2]
  have fin : ∀ a b S2, m_law_wrong [some (.ref 0), some (owV n f L), some (owV m g L2), some (.tup (r.map nV)), none, none, none, none, none, none] (S ++ os) = some (.ret (.tup [.int a, .int b]) (S2 ++ os)) → f_law_wrong [.ref 0, owV n f L, owV m g L2, .tup (r.map nV)] (S ++ os) = ok (.tup [.int a, .int b]) (S2 ++ os) := fun a b S2 e => defM_ret rfl e
  by_cases c : ks = "point" ∨ ks = "value"
  · obtain ⟨G, hG⟩ : ∃ G, G = stepsOf n m f g r "good" := ⟨_, rfl⟩
    have e2 := steps_of (kd := "good") (h := S1 ++ os) o1 o2 hr
    rw [← hG] at e2
    have hl := len "good"
    rw [← hG] at hl
    obtain ⟨w, hw⟩ : ∃ w : Nat, w = max 1 G.length := ⟨_, rfl⟩
    obtain ⟨d, S2, e3, hd, h2⟩ := draw (os := os) (m := w) h1 (by omega) (by omega)
    obtain ⟨d4, S3, e4, hd4, h3⟩ := draw (os := os) (m := 4) h2 (by omega) (by omega)
    have e4' : f_law_draw [.ref 0, .int 4] (S2 ++ os) = ok (.int (d4 : Int)) (S3 ++ os) := e4
    obtain ⟨p, hp, hin⟩ : ∃ p : Nat × Nat, (G ++ [(0, 0)])[d]? = some p ∧ ((p.1 < n ∧ p.2 < m) ∨ p = (0, 0)) := by
      by_cases z : d < G.length
      · refine ⟨G[d], by rw [List.getElem?_append_left z]; exact List.getElem?_eq_getElem z, .inl ?_⟩
        have : G[d] ∈ stepsOf n m f g r "good" := by
          rw [← hG]
          exact List.getElem_mem z
        have := steps_mem.mp this
        exact ⟨this.1, this.2.1⟩
      · have : G = [] := List.length_eq_zero_iff.mp (by omega)
        subst this
        have : d = 0 := by
          rw [hw] at hd
          simp at hd
          omega
        subst this
        exact ⟨(0, 0), rfl, .inr rfl⟩
    have hp2 : (G.map prV ++ [MV.tup [.int 0, .int 0]])[d]? = some (.tup [nV p.1, nV p.2]) := by
      have : G.map prV ++ [MV.tup [.int 0, .int 0]] = (G ++ [(0, 0)]).map prV := by simp
      rw [this, List.getElem?_map, hp]
      rfl
    have ll : G.length ≤ 999999 := by omega
    have mx : (if ((G.length : Int) + 1 - 1) > 1 then ((G.length : Int) + 1 - 1) else 1) = (w : Int) := by
      rw [hw]
      split <;> omega
    have mx2 : (if 1 < (G.length : Int) then (G.length : Int) else 1) = (w : Int) := by
      rw [hw]
      split <;> omega
    obtain ⟨a, ea, ha⟩ := four (x := p.1) (n := n) hd4 (by rcases hin with z | z; exact .inl z.1; exact .inr (by rw [z])) hn
    obtain ⟨b, eb, hb⟩ := four (x := p.2) (n := m) hd4 (by rcases hin with z | z; exact .inl z.2; exact .inr (by rw [z])) hm
    have po : powOk 10 59 := ⟨by omega, by omega, by decide⟩
    by_cases c1 : ks = "point"
    · subst c1
      refine ⟨a, p.2, S3, fin _ _ _ ?_, fun ⟨x, v, z1, _, z2, _⟩ => ha x z2 z1, h3⟩
      unfold m_law_wrong
      rw [seq_nx s1, seq_nx s2, seq_nx s3]
      simp [eqB, e2, ll, lim, e3, atI_n, hp2, mx2, po, e4', ea]
    · have c2 : ks = "value" := c.resolve_left c1
      subst c2
      refine ⟨p.1, b, S3, fin _ _ _ ?_, fun ⟨x, v, _, z1, _, z2, _⟩ => hb v z2 z1, h3⟩
      unfold m_law_wrong
      rw [seq_nx s1, seq_nx s2, seq_nx s3]
      have dv : ¬ ("value" : Str) = "point" := by decide
      simp [eqB, e2, ll, lim, e3, atI_n, hp2, mx2, po, e4', dv, eb]
  · have c1 : ¬ ks = "point" := fun z => c (.inl z)
    have c2 : ¬ ks = "value" := fun z => c (.inr z)
    obtain ⟨G, hG⟩ : ∃ G, G = stepsOf n m f g r ks := ⟨_, rfl⟩
    have e2 := steps_of (kd := ks) (h := S1 ++ os) o1 o2 hr
    rw [← hG] at e2
    have hl := len ks
    rw [← hG] at hl
    by_cases z : G = []
    · refine ⟨n, 0, S1, fin _ _ _ ?_, fun ⟨x, v, z1, _, z2, _⟩ => by omega, h1⟩
      subst z
      unfold m_law_wrong
      rw [seq_nx s1, seq_nx s2, seq_nx s3]
      simp [eqB, e2, lim, c1, c2]
    · obtain ⟨d, S2, e3, hd, h2⟩ := draw (os := os) (m := G.length) h1 (List.length_pos_iff.mpr z) (by omega)
      obtain ⟨p, hp⟩ : ∃ p, G[d]? = some p := ⟨_, List.getElem?_eq_getElem hd⟩
      have hp3 := List.mem_of_getElem? hp
      rw [hG] at hp3
      obtain ⟨_, _, hk⟩ := steps_mem.mp hp3
      refine ⟨p.1, p.2, S2, fin _ _ _ ?_, fun ⟨x, v, z1, z2, z3, z4, z5⟩ => ?_, h2⟩
      · unfold m_law_wrong
        rw [seq_nx s1, seq_nx s2, seq_nx s3]
        have z' : ¬ G.length = 0 := fun q => z (List.length_eq_zero_iff.mp q)
        simp [eqB, e2, lim, c1, c2, z, e3, atI_n, hp]
      · have g1 := (good_iff (n := n) (m := m) (f := f) (g := g) (r := r) o2.so.irr).mpr z5
        have : x = p.1 := by omega
        subst this
        have : v = p.2 := by omega
        subst this
        exact hks (hk.symm.trans g1)
end Mi.k13
set_option maxHeartbeats 4000000
namespace Mi.k13
open PySem L2
abbrev ipV (p : Int × Int) : MV := .tup [.int p.1, .int p.2]
/-- the tables of apply_steps -/
def apS (n m : Nat) (f g : Nat → Nat → Bool) (rv sv : MV) (p : Nat) : MS := [some (ordV n (prs n f)), some (ordV m (prs m g)), some rv, some sv, some (.tup (tb n fun x => .tup ((fib n (f x)).map nV))), some (.tup (tb n fun x => .tup ((fib n fun y => f y x).map nV))), some (mkV m fun x y => cov m g x y || cov m g y x), some (mkV m fun x y => g x y || decide (y = x)), some (.ref p), none, none, none, none]
/-- steps that are allowed one behind the other -/
inductive Ch (n m : Nat) (f g : Nat → Nat → Bool) : List Nat → List (Nat × Nat) → List Nat → Prop
  | nil {r : List Nat} : Ch n m f g r [] r
  | cons {r r2 : List Nat} {x v : Nat} {ss : List (Nat × Nat)} (hx : x < n) (hv : v < m) (o : okS n m f g r x v = true) (t : Ch n m f g (r.set x v) ss r2) : Ch n m f g r ((x, v) :: ss) r2
theorem Ch.mp {n m : Nat} {f g : Nat → Nat → Bool} {r r2 : List Nat} {ss : List (Nat × Nat)} (c : Ch n m f g r ss r2) : Mp n m r → Mp n m r2 := by
  induction c with
  | nil => exact id
  | cons hx hv o t ih => exact fun h => ih (h.set hv)
theorem Ch.snoc {n m x v : Nat} {f g : Nat → Nat → Bool} {r r2 : List Nat} {ss : List (Nat × Nat)} (c : Ch n m f g r ss r2) (hx : x < n) (hv : v < m) (o : okS n m f g r2 x v = true) : Ch n m f g r (ss ++ [(x, v)]) (r2.set x v) := by
  induction c with
  | nil => exact .cons hx hv o .nil
  | cons hx' hv' o' t ih => exact .cons hx' hv' o' (ih o)
theorem ap_good {n m x v i p : Nat} {f g : Nat → Nat → Bool} {r : List Nat} {rv sv : MV} {h : MH} {L L2 : List Nat} (o1 : Ow n f L) (o2 : Ow m g L2) (hr : Mp n m r) (hp : p = h.length) (hx : x < n) (hv : v < m) (hc : (cov m g (r.getD x 0) v || cov m g v (r.getD x 0)) = true) :
    turnM (unp [9, 10]) b1_apply_steps (.tup [nV i, ipV ((x : Int), (v : Int))]) (apS n m f g rv sv p) (h ++ [.lst (r.map nV)]) =
      if fitB n f g r x v = true then some (.nx (apS n m f g rv sv p) (h ++ [.lst ((r.set x v).map nV)])) else some (.ex ⟨"BadStep", [("at", .int (i : Int))]⟩ (h ++ [.lst ((r.set x v).map nV)])) := by
  subst hp
  obtain ⟨w, hw, hl⟩ := hr.at hx
  have ew : r.getD x 0 = w := by rw [List.getD_eq_getElem?_getD, hw]; rfl
  rw [ew] at hc
  have hlen : x < r.length := by rw [hr.len]; exact hx
  have hr2 : Mp n m (r.set x v) := hr.set hv
  have e1 := fits_ (n := n) (m := m) (x := x) (v := v) (r := r.set x v) (A := fib n (f x)) (B := fib n fun y => f y x) (g := fun x y => g x y || decide (y = x)) (p := h.length) (h := h ++ [.lst ((r.set x v).map nV)]) (by simp) hr2 (List.getElem?_set_self hlen) (fun y hy => (fib_mem.mp hy).1) (fun y hy => (fib_mem.mp hy).1)
  have ef : (((fib n (f x)).all fun y => (g v ((r.set x v).getD y 0) || decide ((r.set x v).getD y 0 = v))) && (fib n fun y => f y x).all fun y => (g ((r.set x v).getD y 0) v || decide (v = (r.set x v).getD y 0))) = fitB n f g r x v := by
    unfold fitB leB
    have gd : ∀ y, y ≠ x → (r.set x v).getD y 0 = r.getD y 0 := fun y hy => by
      rw [List.getD_eq_getElem?_getD, List.getElem?_set_ne (Ne.symm hy), ← List.getD_eq_getElem?_getD]
    congr 1
    · rw [Bool.eq_iff_iff, List.all_eq_true, List.all_eq_true]
      refine ⟨fun k y hy => ?_, fun k y hy => ?_⟩
      · have ne : y ≠ x := fun z => by
          have := (fib_mem.mp hy).2
          rw [z, o1.so.irr] at this
          cases this
        have := k y hy
        rw [gd y ne] at this
        rw [Bool.or_eq_true] at this ⊢
        rcases this with q | q
        · exact .inr q
        · exact .inl (by rw [beq_iff_eq]; exact (of_decide_eq_true q).symm)
      · have ne : y ≠ x := fun z => by
          have := (fib_mem.mp hy).2
          rw [z, o1.so.irr] at this
          cases this
        have := k y hy
        rw [gd y ne]
        rw [Bool.or_eq_true] at this ⊢
        rcases this with q | q
        · exact .inr (decide_eq_true (beq_iff_eq.mp q).symm)
        · exact .inl q
    · rw [Bool.eq_iff_iff, List.all_eq_true, List.all_eq_true]
      refine ⟨fun k y hy => ?_, fun k y hy => ?_⟩
      · have ne : y ≠ x := fun z => by
          have := (fib_mem.mp hy).2
          rw [z, o1.so.irr] at this
          cases this
        have := k y hy
        rw [gd y ne] at this
        rw [Bool.or_eq_true] at this ⊢
        rcases this with q | q
        · exact .inr q
        · exact .inl (by rw [beq_iff_eq]; exact (of_decide_eq_true q).symm)
      · have ne : y ≠ x := fun z => by
          have := (fib_mem.mp hy).2
          rw [z, o1.so.irr] at this
          cases this
        have := k y hy
        rw [gd y ne]
        rw [Bool.or_eq_true] at this ⊢
        rcases this with q | q
        · exact .inr (decide_eq_true (beq_iff_eq.mp q).symm)
        · exact .inl q
  rw [ef] at e1
  have h1 : (tb n fun x => MV.tup ((fib n (f x)).map nV))[x]? = some (.tup ((fib n (f x)).map nV)) := tb_get hx
  have h2 : (tb n fun x => MV.tup ((fib n fun y => f y x).map nV))[x]? = some (.tup ((fib n fun y => f y x).map nV)) := tb_get hx
  have g1 := mkL_get (g := fun x y => cov m g x y || cov m g y x) hl
  have i1 : ixF (ordV n (prs n f)) (.int 0) (h ++ [.lst (r.map nV)]) = ok (nV n) (h ++ [.lst (r.map nV)]) := by simp [ordV, atI_0]
  have i2 : ixF (ordV m (prs m g)) (.int 0) (h ++ [.lst (r.map nV)]) = ok (nV m) (h ++ [.lst (r.map nV)]) := by simp [ordV, atI_0]
  have t := tst_mk (a := opM ixF (varM 6) (opM ixF (varM 8) (varM 11))) (b := varM 12) (n := m) (x := w) (y := v) (g := fun x y => cov m g x y || cov m g y x) (s := [some (ordV n (prs n f)), some (ordV m (prs m g)), some rv, some sv, some (.tup (tb n fun x => .tup ((fib n (f x)).map nV))), some (.tup (tb n fun x => .tup ((fib n fun y => f y x).map nV))), some (mkV m fun x y => cov m g x y || cov m g y x), some (mkV m fun x y => g x y || decide (y = x)), some (.ref h.length), some (nV i), some (ipV ((x : Int), (v : Int))), some (nV x), some (nV v)]) (h := h ++ [.lst (r.map nV)]) (by
    generalize msk m (fun y => cov m g w y || cov m g y w) = a at *
    generalize hq : mkL m (fun x y => cov m g x y || cov m g y x) = q at *
    simp [atI_n, hw, mkV, hq, g1]) (by simp) hv
  rw [hc] at t
  have st : (r.map nV).set x (nV v) = (r.set x v).map nV := by rw [List.map_set]
  -- the turn
  have B : b1_apply_steps = wipT [9, 10, 11, 12] (seqS (asgS (unp [11, 12]) (varM 10))
    (seqS (ifS (orT (notT (tstM (chainM leF ltF (cM (.int 0)) (varM 11) (opM ixF (varM 0) (cM (.int 0)))))) (notT (tstM (chainM leF ltF (cM (.int 0)) (varM 12) (opM ixF (varM 1) (cM (.int 0))))))) (raiseS "BadStep" ["at"] (consA (varM 9) nilA)) nilS)
    (seqS (ifS (notT (truM (opM andF (opM shrF (opM ixF (varM 6) (opM ixF (varM 8) (varM 11))) (varM 12)) (cM (.int 1))))) (raiseS "BadStep" ["at"] (consA (varM 9) nilA)) nilS)
    (seqS (subS (varM 12) (varM 8) (varM 11))
    (ifS (notT (truM (callM f_fits [] (consA (varM 8) (consA (varM 11) (consA (opM ixF (varM 4) (varM 11)) (consA (opM ixF (varM 5) (varM 11)) (consA (varM 7) nilA)))))))) (raiseS "BadStep" ["at"] (consA (varM 9) nilA)) nilS))))) := rfl
  generalize hA : (tb n fun x => MV.tup ((fib n (f x)).map nV)) = A at *
  generalize hB : (tb n fun x => MV.tup ((fib n fun y => f y x).map nV)) = B2 at *
  have S1 : ∀ s, s = [some (ordV n (prs n f)), some (ordV m (prs m g)), some rv, some sv, some (.tup A), some (.tup B2), some (mkV m fun x y => cov m g x y || cov m g y x), some (mkV m fun x y => g x y || decide (y = x)), some (.ref h.length), some (nV i), some (ipV ((x : Int), (v : Int))), none, none] →
    b1_apply_steps s (h ++ [.lst (r.map nV)]) = if fitB n f g r x v = true then some (.nx (apS n m f g rv sv h.length) (h ++ [.lst ((r.set x v).map nV)])) else some (.ex ⟨"BadStep", [("at", .int (i : Int))]⟩ (h ++ [.lst ((r.set x v).map nV)])) := fun s hs => by
    subst hs
    rw [B]
    unfold wipT
    have u1 : asgS (unp [11, 12]) (varM 10) [some (ordV n (prs n f)), some (ordV m (prs m g)), some rv, some sv, some (.tup A), some (.tup B2), some (mkV m fun x y => cov m g x y || cov m g y x), some (mkV m fun x y => g x y || decide (y = x)), some (.ref h.length), some (nV i), some (ipV ((x : Int), (v : Int))), none, none] (h ++ [.lst (r.map nV)]) =
      some (.nx [some (ordV n (prs n f)), some (ordV m (prs m g)), some rv, some sv, some (.tup A), some (.tup B2), some (mkV m fun x y => cov m g x y || cov m g y x), some (mkV m fun x y => g x y || decide (y = x)), some (.ref h.length), some (nV i), some (ipV ((x : Int), (v : Int))), some (nV x), some (nV v)] (h ++ [.lst (r.map nV)])) := rfl
    rw [seq_nx u1]
    have x0 : ¬ ((x : Int) < 0) := by omega
    have v0 : ¬ ((v : Int) < 0) := by omega
    have x1 : (x : Int) < (n : Int) := by omega
    have v1 : (v : Int) < (m : Int) := by omega
    have u2 : ifS (orT (notT (tstM (chainM leF ltF (cM (.int 0)) (varM 11) (opM ixF (varM 0) (cM (.int 0)))))) (notT (tstM (chainM leF ltF (cM (.int 0)) (varM 12) (opM ixF (varM 1) (cM (.int 0))))))) (raiseS "BadStep" ["at"] (consA (varM 9) nilA)) nilS [some (ordV n (prs n f)), some (ordV m (prs m g)), some rv, some sv, some (.tup A), some (.tup B2), some (mkV m fun x y => cov m g x y || cov m g y x), some (mkV m fun x y => g x y || decide (y = x)), some (.ref h.length), some (nV i), some (ipV ((x : Int), (v : Int))), some (nV x), some (nV v)] (h ++ [.lst (r.map nV)]) =
      some (.nx [some (ordV n (prs n f)), some (ordV m (prs m g)), some rv, some sv, some (.tup A), some (.tup B2), some (mkV m fun x y => cov m g x y || cov m g y x), some (mkV m fun x y => g x y || decide (y = x)), some (.ref h.length), some (nV i), some (ipV ((x : Int), (v : Int))), some (nV x), some (nV v)] (h ++ [.lst (r.map nV)])) := by
      simp [ordV, atI_0, x1, v1, hx, hv]
    rw [seq_nx u2]
    have u3 : ifS (notT (truM (opM andF (opM shrF (opM ixF (varM 6) (opM ixF (varM 8) (varM 11))) (varM 12)) (cM (.int 1))))) (raiseS "BadStep" ["at"] (consA (varM 9) nilA)) nilS [some (ordV n (prs n f)), some (ordV m (prs m g)), some rv, some sv, some (.tup A), some (.tup B2), some (mkV m fun x y => cov m g x y || cov m g y x), some (mkV m fun x y => g x y || decide (y = x)), some (.ref h.length), some (nV i), some (ipV ((x : Int), (v : Int))), some (nV x), some (nV v)] (h ++ [.lst (r.map nV)]) =
      some (.nx [some (ordV n (prs n f)), some (ordV m (prs m g)), some rv, some sv, some (.tup A), some (.tup B2), some (mkV m fun x y => cov m g x y || cov m g y x), some (mkV m fun x y => g x y || decide (y = x)), some (.ref h.length), some (nV i), some (ipV ((x : Int), (v : Int))), some (nV x), some (nV v)] (h ++ [.lst (r.map nV)])) := by
      unfold ifS notT
      rw [t]
      rfl
    rw [seq_nx u3]
    have hix : ixN r.length (x : Int) = some x := ixN_nat hlen
    have u4 : subS (varM 12) (varM 8) (varM 11) [some (ordV n (prs n f)), some (ordV m (prs m g)), some rv, some sv, some (.tup A), some (.tup B2), some (mkV m fun x y => cov m g x y || cov m g y x), some (mkV m fun x y => g x y || decide (y = x)), some (.ref h.length), some (nV i), some (ipV ((x : Int), (v : Int))), some (nV x), some (nV v)] (h ++ [.lst (r.map nV)]) =
      some (.nx [some (ordV n (prs n f)), some (ordV m (prs m g)), some rv, some sv, some (.tup A), some (.tup B2), some (mkV m fun x y => cov m g x y || cov m g y x), some (mkV m fun x y => g x y || decide (y = x)), some (.ref h.length), some (nV i), some (ipV ((x : Int), (v : Int))), some (nV x), some (nV v)] (h ++ [.lst ((r.set x v).map nV)])) := by
      rw [← st]
      simp [hix]
    rw [seq_nx u4]
    cases c : fitB n f g r x v with
    | true =>
      rw [c, ← st] at e1
      simp [atI_n, h1, h2, e1, apS, hA, hB]
    | false =>
      rw [c, ← st] at e1
      simp [atI_n, h1, h2, e1]
  show b1_apply_steps (((apS n m f g rv sv h.length).set 9 (some (nV i))).set 10 (some (ipV ((x : Int), (v : Int))))) (h ++ [.lst (r.map nV)]) = _
  exact S1 _ (by unfold apS; rw [hA, hB]; rfl)
/-- a step that is not allowed -/
theorem ap_bad {n m i p : Nat} {a b : Int} {f g : Nat → Nat → Bool} {r : List Nat} {rv sv : MV} {h : MH} {L L2 : List Nat} (o1 : Ow n f L) (o2 : Ow m g L2) (hr : Mp n m r) (hp : p = h.length) (nb : ¬ GoodI n m f g r a b) :
    ∃ o, turnM (unp [9, 10]) b1_apply_steps (.tup [nV i, ipV (a, b)]) (apS n m f g rv sv p) (h ++ [.lst (r.map nV)]) = some (.ex ⟨"BadStep", [("at", .int (i : Int))]⟩ (h ++ [o])) := by
  subst hp
  by_cases c : (0 ≤ a ∧ a < n) ∧ (0 ≤ b ∧ b < m)
  · obtain ⟨x, rfl⟩ : ∃ x : Nat, a = (x : Int) := ⟨a.toNat, by omega⟩
    obtain ⟨v, rfl⟩ : ∃ v : Nat, b = (v : Int) := ⟨b.toNat, by omega⟩
    have hx : x < n := by omega
    have hv : v < m := by omega
    have no : okS n m f g r x v = false := by
      cases q : okS n m f g r x v with
      | false => rfl
      | true => exact absurd ⟨x, v, rfl, rfl, hx, hv, q⟩ nb
    by_cases c2 : (cov m g (r.getD x 0) v || cov m g v (r.getD x 0)) = true
    · have e := ap_good (i := i) (rv := rv) (sv := sv) o1 o2 hr rfl hx hv c2 (h := h)
      unfold okS at no
      rw [c2, Bool.true_and] at no
      rw [no, if_neg Bool.false_ne_true] at e
      exact ⟨_, e⟩
    · refine ⟨.lst (r.map nV), ?_⟩
      obtain ⟨w, hw, hl⟩ := hr.at hx
      have ew : r.getD x 0 = w := by rw [List.getD_eq_getElem?_getD, hw]; rfl
      rw [ew] at c2
      have g1 := mkL_get (g := fun x y => cov m g x y || cov m g y x) hl
      have t := tst_mk (a := opM ixF (varM 6) (opM ixF (varM 8) (varM 11))) (b := varM 12) (n := m) (x := w) (y := v) (g := fun x y => cov m g x y || cov m g y x) (s := (((apS n m f g rv sv h.length).set 9 (some (nV i))).set 10 (some (ipV ((x : Int), (v : Int))))).set 11 (some (nV x)) |>.set 12 (some (nV v))) (h := h ++ [.lst (r.map nV)]) (by
        generalize msk m (fun y => cov m g w y || cov m g y w) = a at *
        generalize hq : mkL m (fun x y => cov m g x y || cov m g y x) = q at *
        simp [apS, atI_n, hw, mkV, hq, g1]) (by simp [apS]) hv
      rw [Bool.eq_false_iff.mpr c2] at t
      have x1 : (x : Int) < (n : Int) := by omega
      have v1 : (v : Int) < (m : Int) := by omega
      show b1_apply_steps (((apS n m f g rv sv h.length).set 9 (some (nV i))).set 10 (some (ipV ((x : Int), (v : Int))))) (h ++ [.lst (r.map nV)]) = _
      unfold b1_apply_steps wipT
      have u1 : asgS (unp [11, 12]) (varM 10) (((apS n m f g rv sv h.length).set 9 (some (nV i))).set 10 (some (ipV ((x : Int), (v : Int))))) (h ++ [.lst (r.map nV)]) = some (.nx ((((apS n m f g rv sv h.length).set 9 (some (nV i))).set 10 (some (ipV ((x : Int), (v : Int))))).set 11 (some (nV x)) |>.set 12 (some (nV v))) (h ++ [.lst (r.map nV)])) := rfl
      rw [seq_nx u1]
      have u2 : ifS (orT (notT (tstM (chainM leF ltF (cM (.int 0)) (varM 11) (opM ixF (varM 0) (cM (.int 0)))))) (notT (tstM (chainM leF ltF (cM (.int 0)) (varM 12) (opM ixF (varM 1) (cM (.int 0))))))) (raiseS "BadStep" ["at"] (consA (varM 9) nilA)) nilS ((((apS n m f g rv sv h.length).set 9 (some (nV i))).set 10 (some (ipV ((x : Int), (v : Int))))).set 11 (some (nV x)) |>.set 12 (some (nV v))) (h ++ [.lst (r.map nV)]) = some (.nx ((((apS n m f g rv sv h.length).set 9 (some (nV i))).set 10 (some (ipV ((x : Int), (v : Int))))).set 11 (some (nV x)) |>.set 12 (some (nV v))) (h ++ [.lst (r.map nV)])) := by
        simp [apS, ordV, atI_0, x1, v1, hx, hv]
      rw [seq_nx u2]
      have u3 : ifS (notT (truM (opM andF (opM shrF (opM ixF (varM 6) (opM ixF (varM 8) (varM 11))) (varM 12)) (cM (.int 1))))) (raiseS "BadStep" ["at"] (consA (varM 9) nilA)) nilS ((((apS n m f g rv sv h.length).set 9 (some (nV i))).set 10 (some (ipV ((x : Int), (v : Int))))).set 11 (some (nV x)) |>.set 12 (some (nV v))) (h ++ [.lst (r.map nV)]) = some (.ex ⟨"BadStep", [("at", .int (i : Int))]⟩ (h ++ [.lst (r.map nV)])) := by
        unfold ifS notT
        rw [t]
        rfl
      unfold seqS
      rw [u3]
  · refine ⟨.lst (r.map nV), ?_⟩
    show b1_apply_steps (((apS n m f g rv sv h.length).set 9 (some (nV i))).set 10 (some (ipV (a, b)))) (h ++ [.lst (r.map nV)]) = _
    unfold b1_apply_steps wipT
    have u1 : asgS (unp [11, 12]) (varM 10) (((apS n m f g rv sv h.length).set 9 (some (nV i))).set 10 (some (ipV (a, b)))) (h ++ [.lst (r.map nV)]) = some (.nx ((((apS n m f g rv sv h.length).set 9 (some (nV i))).set 10 (some (ipV (a, b)))).set 11 (some (.int a)) |>.set 12 (some (.int b))) (h ++ [.lst (r.map nV)])) := rfl
    rw [seq_nx u1]
    have u2 : ifS (orT (notT (tstM (chainM leF ltF (cM (.int 0)) (varM 11) (opM ixF (varM 0) (cM (.int 0)))))) (notT (tstM (chainM leF ltF (cM (.int 0)) (varM 12) (opM ixF (varM 1) (cM (.int 0))))))) (raiseS "BadStep" ["at"] (consA (varM 9) nilA)) nilS ((((apS n m f g rv sv h.length).set 9 (some (nV i))).set 10 (some (ipV (a, b)))).set 11 (some (.int a)) |>.set 12 (some (.int b))) (h ++ [.lst (r.map nV)]) = some (.ex ⟨"BadStep", [("at", .int (i : Int))]⟩ (h ++ [.lst (r.map nV)])) := by
      rcases (show ¬ 0 ≤ a ∨ (0 ≤ a ∧ ¬ a < (n : Int)) ∨ ((0 ≤ a ∧ a < (n : Int)) ∧ ¬ 0 ≤ b) ∨ ((0 ≤ a ∧ a < (n : Int)) ∧ 0 ≤ b ∧ ¬ b < (m : Int)) by omega) with z | ⟨z1, z2⟩ | ⟨⟨z1, z2⟩, z3⟩ | ⟨⟨z1, z2⟩, z3, z4⟩
      · simp [apS, ordV, atI_0, z]
      · simp [apS, ordV, atI_0, z1, z2]
      · simp [apS, ordV, atI_0, z1, z2, z3]
      · simp [apS, ordV, atI_0, z1, z2, z3, z4]
    unfold seqS
    rw [u2]
end Mi.k13
set_option maxHeartbeats 4000000
namespace Mi.k13
open PySem L2
abbrev rowT (r : List Nat) : MV := .tup (r.map nV)
theorem loop_good {n m p : Nat} {f g : Nat → Nat → Bool} {L L2 : List Nat} {rv sv : MV} {h : MH} (o1 : Ow n f L) (o2 : Ow m g L2) (hp : p = h.length) {tl : List MV} {r r2 : List Nat} {ss : List (Nat × Nat)} (c : Ch n m f g r ss r2) : ∀ (i : Nat), Mp n m r →
    forS (turnM (unp [9, 10]) b1_apply_steps) (enmOf i (ss.map prV ++ tl)) (apS n m f g rv sv p) (h ++ [.lst (r.map nV)]) = forS (turnM (unp [9, 10]) b1_apply_steps) (enmOf (i + ss.length) tl) (apS n m f g rv sv p) (h ++ [.lst (r2.map nV)]) := by
  induction c with
  | nil =>
    intro i _
    rfl
  | @cons r r2 x v ss hx hv o t ih =>
    intro i hr
    have o' := o
    unfold okS at o'
    rw [Bool.and_eq_true] at o'
    have e := ap_good (i := i) (rv := rv) (sv := sv) (h := h) o1 o2 hr hp hx hv o'.1
    rw [if_pos o'.2] at e
    have ih' := ih (i + 1) (hr.set hv)
    have e3 := (forS_nx (xs := enmOf (i + 1) (ss.map prV ++ tl)) e).trans ih'
    rw [List.length_cons, show i + (ss.length + 1) = i + 1 + ss.length by omega]
    exact e3
theorem ap_start {n m : Nat} {f g : Nat → Nat → Bool} {L L2 : List Nat} {r : List Nat} {xs : List MV} {h : MH} (o1 : Ow n f L) (o2 : Ow m g L2) : ∀ res, seqS (preW [9, 10, 11, 12] (forM (enmI (consA (varM 3) nilA)) (unp [9, 10]) b1_apply_steps)) (retS (bltM tupF (consA (varM 8) nilA))) (apS n m f g (rowT r) (.tup xs) h.length) (h ++ [.lst (r.map nV)]) = res →
    m_apply_steps [some (ordV n (prs n f)), some (ordV m (prs m g)), some (rowT r), some (.tup xs), none, none, none, none, none, none, none, none, none] h = res := fun res e => by
  unfold m_apply_steps
  have a1 := high_o (f := f) (h := h) o1.le
  have a2 := low_o (f := f) (h := h) o1.le
  have a3 := neigh (f := g) (h := h) o2.le
  have a4 := least_o (f := g) (h := h) o2.le
  have b1 := points_of (g := f) (h := h) o1.le
  have b2 := points_of (g := fun x y => f y x) (h := h) o1.le
  rw [seq_nx (s1 := [some (ordV n (prs n f)), some (ordV m (prs m g)), some (rowT r), some (.tup xs), some (.tup (tb n fun x => .tup ((fib n (f x)).map nV))), none, none, none, none, none, none, none, none]) (h1 := h) (by simp [a1, b1]),
    seq_nx (s1 := [some (ordV n (prs n f)), some (ordV m (prs m g)), some (rowT r), some (.tup xs), some (.tup (tb n fun x => .tup ((fib n (f x)).map nV))), some (.tup (tb n fun x => .tup ((fib n fun y => f y x).map nV))), none, none, none, none, none, none, none]) (h1 := h) (by simp [a2, b2]),
    seq_nx (s1 := [some (ordV n (prs n f)), some (ordV m (prs m g)), some (rowT r), some (.tup xs), some (.tup (tb n fun x => .tup ((fib n (f x)).map nV))), some (.tup (tb n fun x => .tup ((fib n fun y => f y x).map nV))), some (mkV m fun x y => cov m g x y || cov m g y x), none, none, none, none, none, none]) (h1 := h) (by simp [a3]),
    seq_nx (s1 := [some (ordV n (prs n f)), some (ordV m (prs m g)), some (rowT r), some (.tup xs), some (.tup (tb n fun x => .tup ((fib n (f x)).map nV))), some (.tup (tb n fun x => .tup ((fib n fun y => f y x).map nV))), some (mkV m fun x y => cov m g x y || cov m g y x), some (mkV m fun x y => g x y || decide (y = x)), none, none, none, none, none]) (h1 := h) (by simp [a4]),
    seq_nx (s1 := apS n m f g (rowT r) (.tup xs) h.length) (h1 := h ++ [.lst (r.map nV)]) (by simp [apS])]
  exact e
theorem apply_good {n m : Nat} {f g : Nat → Nat → Bool} {L L2 : List Nat} {r r2 : List Nat} {ss : List (Nat × Nat)} {h : MH} (o1 : Ow n f L) (o2 : Ow m g L2) (hr : Mp n m r) (c : Ch n m f g r ss r2) :
    f_apply_steps [ordV n (prs n f), ordV m (prs m g), rowT r, .tup (ss.map prV)] h = ok (rowT r2) h := by
  refine cut_p (os := [.lst (r2.map nV)]) ?_ clo_ns
  refine defM_ret rfl (ap_start o1 o2 _ ?_)
  have e := loop_good (rv := rowT r) (sv := .tup (ss.map prV)) (h := h) (tl := []) o1 o2 rfl c 0 hr
  rw [List.append_nil] at e
  have e' : preW [9, 10, 11, 12] (forM (enmI (consA (varM 3) nilA)) (unp [9, 10]) b1_apply_steps) (apS n m f g (rowT r) (.tup (ss.map prV)) h.length) (h ++ [.lst (r.map nV)]) = some (.nx (apS n m f g (rowT r) (.tup (ss.map prV)) h.length) (h ++ [.lst (r2.map nV)])) := e
  rw [seq_nx e']
  simp [apS]
theorem apply_bad {n m : Nat} {a b : Int} {f g : Nat → Nat → Bool} {L L2 : List Nat} {r r2 : List Nat} {ss : List (Nat × Nat)} {tl : List MV} {h : MH} (o1 : Ow n f L) (o2 : Ow m g L2) (hr : Mp n m r) (c : Ch n m f g r ss r2) (nb : ¬ GoodI n m f g r2 a b) :
    ∃ o, f_apply_steps [ordV n (prs n f), ordV m (prs m g), rowT r, .tup (ss.map prV ++ ipV (a, b) :: tl)] h = some (.ex ⟨"BadStep", [("at", .int (ss.length : Int))]⟩ (h ++ [o])) := by
  have e := loop_good (rv := rowT r) (sv := .tup (ss.map prV ++ ipV (a, b) :: tl)) (h := h) (tl := ipV (a, b) :: tl) o1 o2 rfl c 0 hr
  obtain ⟨o, e2⟩ := ap_bad (i := 0 + ss.length) (rv := rowT r) (sv := .tup (ss.map prV ++ ipV (a, b) :: tl)) (h := h) o1 o2 (c.mp hr) rfl nb
  refine ⟨o, ?_⟩
  have e3 : forS (turnM (unp [9, 10]) b1_apply_steps) (enmOf (0 + ss.length) (ipV (a, b) :: tl)) (apS n m f g (rowT r) (.tup (ss.map prV ++ ipV (a, b) :: tl)) h.length) (h ++ [.lst (r2.map nV)]) = some (.ex ⟨"BadStep", [("at", .int (ss.length : Int))]⟩ (h ++ [o])) := by
    rw [Nat.zero_add] at e2 ⊢
    exact forS_ex e2
  have e' : preW [9, 10, 11, 12] (forM (enmI (consA (varM 3) nilA)) (unp [9, 10]) b1_apply_steps) (apS n m f g (rowT r) (.tup (ss.map prV ++ ipV (a, b) :: tl)) h.length) (h ++ [.lst (r.map nV)]) = some (.ex ⟨"BadStep", [("at", .int (ss.length : Int))]⟩ (h ++ [o])) := e.trans e3
  have e4 : defM 4 13 m_apply_steps [ordV n (prs n f), ordV m (prs m g), rowT r, .tup (ss.map prV ++ ipV (a, b) :: tl)] h = some (.ex ⟨"BadStep", [("at", .int (ss.length : Int))]⟩ (h ++ [o])) := defM_ex rfl (ap_start o1 o2 _ (seq_ex e'))
  unfold f_apply_steps cutF
  rw [e4]
/-! ### _law_asked -/
theorem asked_good {n m : Nat} {f g : Nat → Nat → Bool} {L L2 : List Nat} {r r2 : List Nat} {ss : List (Nat × Nat)} {sv : MV} {b : Bool} {h : MH} (o1 : Ow n f L) (o2 : Ow m g L2) (hr : Mp n m r) (c : Ch n m f g r ss r2) (hs : seqOf h sv = some (ss.map prV)) (hk : ∀ xs, sv ≠ .ktp xs) :
    f_law_asked [owV n f L, owV m g L2, rowT r, sv, .bl b] h = ok (.tup [.str "told", rowT r2]) h := by
  have e := apply_good (h := h) o1 o2 hr c
  have tf : tupF [sv] h = ok (.tup (ss.map prV)) h := by
    unfold tupF
    cases sv <;> first | exact absurd rfl (hk _) | (dsimp only; rw [hs])
  have i1 : ∀ k (f : Nat → Nat → Bool) (L : List Nat), ixF (owV k f L) (.int 0) h = ok (ordV k (prs k f)) h := fun k f L => by simp [owV, atI_0]
  refine cut_p (os := []) ?_ (by simp)
  rw [List.append_nil]
  refine defM_ret rfl ?_
  show m_law_asked [some (owV n f L), some (owV m g L2), some (rowT r), some sv, some (.bl b), none, none] h = _
  unfold m_law_asked tryS
  have q : (seqS (ifS (truM (varM 4)) (retS (tupM (consA (cM (.str "told")) (consA (callKX f_apply_steps 0 4 [3, 2, 1, 0] [] nilA (consA (bltM tupF (consA (varM 3) nilA)) (consA (varM 2) (consA (opM ixF (varM 1) (cM (.int 0))) (consA (opM ixF (varM 0) (cM (.int 0))) nilA))))) nilA)))) nilS)
    (retS (tupM (consA (cM (.str "told")) (consA (callX f_apply_steps [] (consA (opM ixF (varM 0) (cM (.int 0))) (consA (opM ixF (varM 1) (cM (.int 0))) (consA (varM 2) (consA (bltM tupF (consA (varM 3) nilA)) nilA))))) nilA))))) [some (owV n f L), some (owV m g L2), some (rowT r), some sv, some (.bl b), none, none] h = some (.ret (.tup [.str "told", rowT r2]) h) := by
    have t1 : bltM tupF (consA (varM 3) nilA) [some (owV n f L), some (owV m g L2), some (rowT r), some sv, some (.bl b), none, none] h = ok (.tup (ss.map prV)) h := tf
    have t2 : opM ixF (varM 0) (cM (.int 0)) [some (owV n f L), some (owV m g L2), some (rowT r), some sv, some (.bl b), none, none] h = ok (ordV n (prs n f)) h := i1 n f L
    have t3 : opM ixF (varM 1) (cM (.int 0)) [some (owV n f L), some (owV m g L2), some (rowT r), some sv, some (.bl b), none, none] h = ok (ordV m (prs m g)) h := i1 m g L2
    have A1 : consA (opM ixF (varM 0) (cM (.int 0))) (consA (opM ixF (varM 1) (cM (.int 0))) (consA (varM 2) (consA (bltM tupF (consA (varM 3) nilA)) nilA))) [some (owV n f L), some (owV m g L2), some (rowT r), some sv, some (.bl b), none, none] h = ok [ordV n (prs n f), ordV m (prs m g), rowT r, .tup (ss.map prV)] h := consA_ok t2 (consA_ok t3 (consA_ok rfl (consA_ok t1 rfl)))
    have A2 : consA (bltM tupF (consA (varM 3) nilA)) (consA (varM 2) (consA (opM ixF (varM 1) (cM (.int 0))) (consA (opM ixF (varM 0) (cM (.int 0))) nilA))) [some (owV n f L), some (owV m g L2), some (rowT r), some sv, some (.bl b), none, none] h = ok [.tup (ss.map prV), rowT r, ordV m (prs m g), ordV n (prs n f)] h := consA_ok t1 (consA_ok rfl (consA_ok t3 (consA_ok t2 rfl)))
    cases b  with
    | true =>
      refine seq_ret ((ifS_t rfl).trans (retS_ok (tupM_ok (consA_ok rfl (consA_ok ?_ rfl)) (by simp))))
      exact (callKX_0 A2 rfl).trans e
    | false =>
      refine (seq_nx (ifS_f rfl)).trans (retS_ok (tupM_ok (consA_ok rfl (consA_ok ?_ rfl)) (by simp)))
      exact (callX_is A1).trans e
  rw [q]
theorem asked_bad {n m : Nat} {x y : Int} {f g : Nat → Nat → Bool} {L L2 : List Nat} {r r2 : List Nat} {ss : List (Nat × Nat)} {tl : List MV} {sv : MV} {b : Bool} {h : MH} (o1 : Ow n f L) (o2 : Ow m g L2) (hr : Mp n m r) (c : Ch n m f g r ss r2) (nb : ¬ GoodI n m f g r2 x y) (hs : seqOf h sv = some (ss.map prV ++ ipV (x, y) :: tl)) (hk : ∀ xs, sv ≠ .ktp xs) :
    f_law_asked [owV n f L, owV m g L2, rowT r, sv, .bl b] h = ok (.fls [.str "step", .int (ss.length : Int), .bl true]) h := by
  obtain ⟨o, e⟩ := apply_bad (tl := tl) (h := h) o1 o2 hr c nb
  have tf : tupF [sv] h = ok (.tup (ss.map prV ++ ipV (x, y) :: tl)) h := by
    unfold tupF
    cases sv <;> first | exact absurd rfl (hk _) | (dsimp only; rw [hs])
  have i1 : ∀ k (f : Nat → Nat → Bool) (L : List Nat), ixF (owV k f L) (.int 0) h = ok (ordV k (prs k f)) h := fun k f L => by simp [owV, atI_0]
  refine cut_p (os := [o]) ?_ (by simp)
  refine defM_ret rfl ?_
  show m_law_asked [some (owV n f L), some (owV m g L2), some (rowT r), some sv, some (.bl b), none, none] h = _
  unfold m_law_asked tryS
  have q : (seqS (ifS (truM (varM 4)) (retS (tupM (consA (cM (.str "told")) (consA (callKX f_apply_steps 0 4 [3, 2, 1, 0] [] nilA (consA (bltM tupF (consA (varM 3) nilA)) (consA (varM 2) (consA (opM ixF (varM 1) (cM (.int 0))) (consA (opM ixF (varM 0) (cM (.int 0))) nilA))))) nilA)))) nilS)
    (retS (tupM (consA (cM (.str "told")) (consA (callX f_apply_steps [] (consA (opM ixF (varM 0) (cM (.int 0))) (consA (opM ixF (varM 1) (cM (.int 0))) (consA (varM 2) (consA (bltM tupF (consA (varM 3) nilA)) nilA))))) nilA))))) [some (owV n f L), some (owV m g L2), some (rowT r), some sv, some (.bl b), none, none] h = some (.ex ⟨"BadStep", [("at", .int (ss.length : Int))]⟩ (h ++ [o])) := by
    have t1 : bltM tupF (consA (varM 3) nilA) [some (owV n f L), some (owV m g L2), some (rowT r), some sv, some (.bl b), none, none] h = ok (.tup (ss.map prV ++ ipV (x, y) :: tl)) h := tf
    have t2 : opM ixF (varM 0) (cM (.int 0)) [some (owV n f L), some (owV m g L2), some (rowT r), some sv, some (.bl b), none, none] h = ok (ordV n (prs n f)) h := i1 n f L
    have t3 : opM ixF (varM 1) (cM (.int 0)) [some (owV n f L), some (owV m g L2), some (rowT r), some sv, some (.bl b), none, none] h = ok (ordV m (prs m g)) h := i1 m g L2
    have A1 : consA (opM ixF (varM 0) (cM (.int 0))) (consA (opM ixF (varM 1) (cM (.int 0))) (consA (varM 2) (consA (bltM tupF (consA (varM 3) nilA)) nilA))) [some (owV n f L), some (owV m g L2), some (rowT r), some sv, some (.bl b), none, none] h = ok [ordV n (prs n f), ordV m (prs m g), rowT r, .tup (ss.map prV ++ ipV (x, y) :: tl)] h := consA_ok t2 (consA_ok t3 (consA_ok rfl (consA_ok t1 rfl)))
    have A2 : consA (bltM tupF (consA (varM 3) nilA)) (consA (varM 2) (consA (opM ixF (varM 1) (cM (.int 0))) (consA (opM ixF (varM 0) (cM (.int 0))) nilA))) [some (owV n f L), some (owV m g L2), some (rowT r), some sv, some (.bl b), none, none] h = ok [.tup (ss.map prV ++ ipV (x, y) :: tl), rowT r, ordV m (prs m g), ordV n (prs n f)] h := consA_ok t1 (consA_ok rfl (consA_ok t3 (consA_ok t2 rfl)))
    cases b  with
    | true =>
      refine seq_ex ((ifS_t rfl).trans (retS_ex (tupM_ex (consA_ex2 rfl (consA_ex ?_)))))
      exact (callKX_0 A2 rfl).trans e
    | false =>
      refine (seq_nx (ifS_f rfl)).trans (retS_ex (tupM_ex (consA_ex2 rfl (consA_ex ?_))))
      exact (callX_is A1).trans e
  rw [q]
  have lk : List.lookup ("BadStep" : Str) [(("BadStep" : Str), true)] = some true := rfl
  have lk2 : List.lookup ("BadStep" : Str) [(("BadStep" : Str), false)] = some false := rfl
  dsimp only
  rw [lk]
  dsimp only
  refine allAd_eq fun a d => ?_
  simp only [lk, lk2]
  simp [lim]
/-! ### _law_same -/
/-- plain values, so deep -/
def plB : Nat → MV → Bool
  | _, .int _ => true
  | _, .bl _ => true
  | _, .str _ => true
  | _, .non => true
  | k + 1, .tup xs => xs.all (plB k) && decide (xs.length ≤ 5000)
  | k + 1, .fls xs => xs.all (plB k) && decide (xs.length ≤ 5000)
  | _, _ => false
theorem same_refl : ∀ (k : Nat) (v : MV) (h : MH), plB k v = true → fr_law_same (k + 1) [v, v] h = ok (.bl true) h := by
  intro k
  induction k with
  | zero =>
    intro v h e
    cases v <;> first | (cases e; done) | simp [fr_law_same, m_law_same, eqB, Ty.le]
  | succ k ih =>
    intro v h e
    have lp : ∀ (xs : List MV) (a : MV), xs.all (plB k) = true → xs.length ≤ 5000 → (∀ (i : Nat) (x : MV), xs[i]? = some x → ixF a (.int (i : Int)) h = ok x h) → forS (turnM (one 2) (b1_law_same (fr_law_same (k + 1)))) (runOf 0 xs.length) [some a, some a, none] h = some (.nx [some a, some a, none] h) := by
      intro xs a hx hl hi
      obtain ⟨w, e2, _⟩ := for_n (bd := turnM (one 2) (b1_law_same (fr_law_same (k + 1)))) (n := xs.length) (fun _ : Unit => [some a, some a, none]) (fun _ => h) (fun _ _ => True) (a0 := ()) trivial fun i _ hi' _ => by
        obtain ⟨x, ex⟩ : ∃ x, xs[i]? = some x := ⟨_, List.getElem?_eq_getElem hi'⟩
        have e3 := ih x h (List.all_eq_true.mp hx x (List.mem_of_getElem? ex))
        have e4 := hi i x ex
        refine ⟨(), .inl ?_, trivial⟩
        have c : callM (fr_law_same (k + 1)) [] (consA (opM ixF (varM 0) (varM 2)) (consA (opM ixF (varM 1) (varM 2)) nilA)) [some a, some a, some (nV i)] h = ok (.bl true) h := by
          simp only [callM, consA, opM, varM, slot, may, bnd_ok, e4, nilA, List.append_nil, e3]
          rfl
        show b1_law_same (fr_law_same (k + 1)) [some a, some a, some (nV i)] h = _
        unfold b1_law_same wipT ifS notT truM
        rw [c]
        rfl
      exact e2
    cases v with
    | int i => simp [fr_law_same, m_law_same, eqB, Ty.le]
    | bl i => simp [fr_law_same, m_law_same, eqB, Ty.le]
    | str i => simp [fr_law_same, m_law_same, eqB, Ty.le]
    | non => simp [fr_law_same, m_law_same, eqB, Ty.le]
    | tup xs =>
      have e' : (xs.all (plB k) && decide (xs.length ≤ 5000)) = true := e
      rw [Bool.and_eq_true, decide_eq_true_iff] at e'
      have l := lp xs (.tup xs) e'.1 e'.2 fun i x ex => by
        have : atI xs (i : Int) = some x := by rw [atI_n, ex]
        simp [this]
      have q1 : (xs.length : Int) ≤ 1000000 := by omega
      have q2 : (-1000000 : Int) ≤ xs.length := by omega
      show defM 2 3 (m_law_same (fr_law_same (k + 1))) [.tup xs, .tup xs] h = _
      generalize fr_law_same (k + 1) = R at *
      simp [m_law_same, eqB, Ty.le, q1, q2, l]
    | fls xs =>
      have e' : (xs.all (plB k) && decide (xs.length ≤ 5000)) = true := e
      rw [Bool.and_eq_true, decide_eq_true_iff] at e'
      have l := lp xs (.fls xs) e'.1 e'.2 fun i x ex => by
        have : atI xs (i : Int) = some x := by rw [atI_n, ex]
        simp [this]
      have q1 : (xs.length : Int) ≤ 1000000 := by omega
      have q2 : (-1000000 : Int) ≤ xs.length := by omega
      show defM 2 3 (m_law_same (fr_law_same (k + 1))) [.fls xs, .fls xs] h = _
      generalize fr_law_same (k + 1) = R at *
      simp [m_law_same, eqB, Ty.le, q1, q2, l]
    | ktp xs => cases e
    | frz xs => cases e
    | ref l => cases e
    | exc a d f xs => cases e
theorem same {v : MV} {h : MH} (e : plB 5 v = true) : f_law_same [v, v] h = ok (.bl true) h := same_refl 5 v h e
end Mi.k13
set_option maxHeartbeats 4000000
namespace Mi.k13
open PySem L2
theorem orders_ {S os : MH} (hS : St S) : ∃ (n m : Nat) (f g : Nat → Nat → Bool) (L L2 : List Nat) (S' : MH), f_law_orders [.ref 0] (S ++ os) = ok (.tup [owV n f L, owV m g L2]) (S' ++ os) ∧ Ow n f L ∧ Ow m g L2 ∧ (0 < n → 0 < m) ∧ St S' := by
  obtain ⟨d, S1, e1, hd, h1⟩ := draw (os := os) (m := 20) hS (by omega) (by omega)
  obtain ⟨n0, S2, e2, hn0, h2⟩ := draw (os := os) (m := 8) h1 (by omega) (by omega)
  obtain ⟨m0, S3, e3, hm0, h3⟩ := draw (os := os) (m := 8) h2 (by omega) (by omega)
  have e1' : f_law_draw [.ref 0, .int 20] (S ++ os) = ok (.int (d : Int)) (S1 ++ os) := e1
  have e2' : f_law_draw [.ref 0, .int 8] (S1 ++ os) = ok (.int (n0 : Int)) (S2 ++ os) := e2
  have e3' : f_law_draw [.ref 0, .int 8] (S2 ++ os) = ok (.int (m0 : Int)) (S3 ++ os) := e3
  have fin : ∀ x S4, m_law_orders [some (.ref 0), none, none, none] (S ++ os) = some (.ret x (S4 ++ os)) → f_law_orders [.ref 0] (S ++ os) = ok x (S4 ++ os) := fun x S4 e => defM_ret rfl e
  have K6 : ∀ {S : MH} {n : Nat}, St S → n ≤ 64 → ∃ f L S', f_law_order [.ref 0, .int (n : Int), .tup [.int 0, .int 1, .int 2, .int 3, .int 4, .int 5]] (S ++ os) = ok (owV n f L) (S' ++ os) ∧ Ow n f L ∧ St S' := fun {S n} hS hn => by
    have := order (os := os) (n := n) (ks := [0, 1, 2, 3, 4, 5]) hS hn (by decide) (by decide) (by decide)
    exact this
  by_cases c3 : d = 3
  · subst c3
    obtain ⟨n, S4, e4, hn, h4⟩ := draw (os := os) (m := 65) h3 (by omega) (by omega)
    have e4' : f_law_draw [.ref 0, .int 65] (S3 ++ os) = ok (.int (n : Int)) (S4 ++ os) := e4
    obtain ⟨f, L, S5, e5, o5, h5⟩ := order (os := os) (n := n) (ks := [2]) h4 (by omega) (by decide) (by decide) (by decide)
    have e5' : f_law_order [.ref 0, .int (n : Int), .tup [.int 2]] (S4 ++ os) = ok (owV n f L) (S5 ++ os) := e5
    obtain ⟨m1, S6, e6, hm, h6⟩ := draw (os := os) (m := 3) h5 (by omega) (by omega)
    have e6' : f_law_draw [.ref 0, .int 3] (S5 ++ os) = ok (.int (m1 : Int)) (S6 ++ os) := e6
    obtain ⟨m, em⟩ : ∃ m : Nat, m = 1 + m1 := ⟨_, rfl⟩
    have em' : (1 : Int) + (m1 : Int) = (m : Int) := by omega
    obtain ⟨g, L2, S7, e7, o7, h7⟩ := order (os := os) (n := m) (ks := [2, 3]) h6 (by omega) (by decide) (by decide) (by decide)
    have e7' : f_law_order [.ref 0, .int (m : Int), .tup [.int 2, .int 3]] (S6 ++ os) = ok (owV m g L2) (S7 ++ os) := e7
    refine ⟨n, m, f, g, L, L2, S7, fin _ _ ?_, o5, o7, fun _ => by omega, h7⟩
    simp [m_law_orders, e1', e2', e3', eqB, e4', e5', e6', em', e7', lim]
  · have c3' : ¬ ((d : Int) = 3) := by omega
    have go : ∀ (n m : Nat) (S4 : MH), St S4 → n ≤ 64 → m ≤ 64 → (0 < n → 0 < m) → (∀ x S5, seqS (ifS (tstM (opM eqF (varM 1) (cM (.int 3)))) (retS (tupM (consA (callM f_law_order [] (consA (varM 0) (consA (callM f_law_draw [] (consA (varM 0) (consA (cM (.int 65)) nilA))) (consA (tupM (consA (cM (.int 2)) nilA)) nilA)))) (consA (callM f_law_order [] (consA (varM 0) (consA (opM addF (cM (.int 1)) (callM f_law_draw [] (consA (varM 0) (consA (cM (.int 3)) nilA)))) (consA (tupM (consA (cM (.int 2)) (consA (cM (.int 3)) nilA))) nilA)))) nilA)))) nilS)
    (retS (tupM (consA (callM f_law_order [] (consA (varM 0) (consA (varM 2) (consA (tupM (consA (cM (.int 0)) (consA (cM (.int 1)) (consA (cM (.int 2)) (consA (cM (.int 3)) (consA (cM (.int 4)) (consA (cM (.int 5)) nilA))))))) nilA)))) (consA (callM f_law_order [] (consA (varM 0) (consA (varM 3) (consA (tupM (consA (cM (.int 0)) (consA (cM (.int 1)) (consA (cM (.int 2)) (consA (cM (.int 3)) (consA (cM (.int 4)) (consA (cM (.int 5)) nilA))))))) nilA)))) nilA)))) [some (.ref 0), some (nV d), some (nV n), some (nV m)] (S4 ++ os) = some (.ret x (S5 ++ os)) → m_law_orders [some (.ref 0), none, none, none] (S ++ os) = some (.ret x (S5 ++ os))) →
      ∃ (n m : Nat) (f g : Nat → Nat → Bool) (L L2 : List Nat) (S' : MH), f_law_orders [.ref 0] (S ++ os) = ok (.tup [owV n f L, owV m g L2]) (S' ++ os) ∧ Ow n f L ∧ Ow m g L2 ∧ (0 < n → 0 < m) ∧ St S' := fun n m S4 h4 hn hm h0 k => by
      obtain ⟨f, L, S5, e5, o5, h5⟩ := K6 h4 hn
      obtain ⟨g, L2, S6, e6, o6, h6⟩ := K6 h5 hm
      refine ⟨n, m, f, g, L, L2, S6, fin _ _ (k _ _ ?_), o5, o6, h0, h6⟩
      simp [eqB, c3', e5, e6, lim]
    by_cases c0 : d = 0
    · subst c0
      obtain ⟨n, S4, e4, hn, h4⟩ := draw (os := os) (m := 4) h3 (by omega) (by omega)
      have e4' : f_law_draw [.ref 0, .int 4] (S3 ++ os) = ok (.int (n : Int)) (S4 ++ os) := e4
      obtain ⟨m, S5, e5, hm, h5⟩ := draw (os := os) (m := 5) h4 (by omega) (by omega)
      have e5' : f_law_draw [.ref 0, .int 5] (S4 ++ os) = ok (.int (m : Int)) (S5 ++ os) := e5
      refine go (9 + n) (1 + m) S5 h5 (by omega) (by omega) (fun _ => by omega) fun x S6 e => ?_
      have en : ((9 + n : Nat) : Int) = 9 + (n : Int) := by omega
      have em : ((1 + m : Nat) : Int) = 1 + (m : Int) := by omega
      unfold m_law_orders
      rw [seq_nx (s1 := [some (.ref 0), some (nV 0), none, none]) (h1 := S1 ++ os) (by simp [e1']), seq_nx (s1 := [some (.ref 0), some (nV 0), some (nV (1 + n0)), none]) (h1 := S2 ++ os) (by simp [e2']), seq_nx (s1 := [some (.ref 0), some (nV 0), some (nV (1 + n0)), some (nV (1 + m0))]) (h1 := S3 ++ os) (by simp [e3']),
        seq_nx (s1 := [some (.ref 0), some (nV 0), some (nV (9 + n)), some (nV (1 + m))]) (h1 := S5 ++ os) (by simp [eqB, e4', e5', lim]), seq_nx (s1 := [some (.ref 0), some (nV 0), some (nV (9 + n)), some (nV (1 + m))]) (h1 := S5 ++ os) (by simp [eqB]), seq_nx (s1 := [some (.ref 0), some (nV 0), some (nV (9 + n)), some (nV (1 + m))]) (h1 := S5 ++ os) (by simp [eqB])]
      exact e
    by_cases c1 : d = 1
    · subst c1
      obtain ⟨n, S4, e4, hn, h4⟩ := draw (os := os) (m := 5) h3 (by omega) (by omega)
      have e4' : f_law_draw [.ref 0, .int 5] (S3 ++ os) = ok (.int (n : Int)) (S4 ++ os) := e4
      obtain ⟨m, S5, e5, hm, h5⟩ := draw (os := os) (m := 4) h4 (by omega) (by omega)
      have e5' : f_law_draw [.ref 0, .int 4] (S4 ++ os) = ok (.int (m : Int)) (S5 ++ os) := e5
      refine go (1 + n) (9 + m) S5 h5 (by omega) (by omega) (fun _ => by omega) fun x S6 e => ?_
      unfold m_law_orders
      rw [seq_nx (s1 := [some (.ref 0), some (nV 1), none, none]) (h1 := S1 ++ os) (by simp [e1']), seq_nx (s1 := [some (.ref 0), some (nV 1), some (nV (1 + n0)), none]) (h1 := S2 ++ os) (by simp [e2']), seq_nx (s1 := [some (.ref 0), some (nV 1), some (nV (1 + n0)), some (nV (1 + m0))]) (h1 := S3 ++ os) (by simp [e3']),
        seq_nx (s1 := [some (.ref 0), some (nV 1), some (nV (1 + n0)), some (nV (1 + m0))]) (h1 := S3 ++ os) (by simp [eqB]), seq_nx (s1 := [some (.ref 0), some (nV 1), some (nV (1 + n)), some (nV (9 + m))]) (h1 := S5 ++ os) (by simp [eqB, e4', e5', lim]), seq_nx (s1 := [some (.ref 0), some (nV 1), some (nV (1 + n)), some (nV (9 + m))]) (h1 := S5 ++ os) (by simp [eqB])]
      exact e
    have c0' : ¬ ((d : Int) = 0) := by omega
    have c1' : ¬ ((d : Int) = 1) := by omega
    by_cases c2 : d = 2
    · subst c2
      obtain ⟨m, S4, e4, hm, h4⟩ := draw (os := os) (m := 6) h3 (by omega) (by omega)
      have e4' : f_law_draw [.ref 0, .int 6] (S3 ++ os) = ok (.int (m : Int)) (S4 ++ os) := e4
      refine go 0 m S4 h4 (by omega) (by omega) (fun z => absurd z (by omega)) fun x S6 e => ?_
      unfold m_law_orders
      rw [seq_nx (s1 := [some (.ref 0), some (nV 2), none, none]) (h1 := S1 ++ os) (by simp [e1']), seq_nx (s1 := [some (.ref 0), some (nV 2), some (nV (1 + n0)), none]) (h1 := S2 ++ os) (by simp [e2']), seq_nx (s1 := [some (.ref 0), some (nV 2), some (nV (1 + n0)), some (nV (1 + m0))]) (h1 := S3 ++ os) (by simp [e3']),
        seq_nx (s1 := [some (.ref 0), some (nV 2), some (nV (1 + n0)), some (nV (1 + m0))]) (h1 := S3 ++ os) (by simp [eqB]), seq_nx (s1 := [some (.ref 0), some (nV 2), some (nV (1 + n0)), some (nV (1 + m0))]) (h1 := S3 ++ os) (by simp [eqB]), seq_nx (s1 := [some (.ref 0), some (nV 2), some (nV 0), some (nV m)]) (h1 := S4 ++ os) (by simp [eqB, e4', lim])]
      exact e
    · have c2' : ¬ ((d : Int) = 2) := by omega
      refine go (1 + n0) (1 + m0) S3 h3 (by omega) (by omega) (fun _ => by omega) fun x S6 e => ?_
      unfold m_law_orders
      rw [seq_nx (s1 := [some (.ref 0), some (nV d), none, none]) (h1 := S1 ++ os) (by simp [e1']), seq_nx (s1 := [some (.ref 0), some (nV d), some (nV (1 + n0)), none]) (h1 := S2 ++ os) (by simp [e2']), seq_nx (s1 := [some (.ref 0), some (nV d), some (nV (1 + n0)), some (nV (1 + m0))]) (h1 := S3 ++ os) (by simp [e3']),
        seq_nx (s1 := [some (.ref 0), some (nV d), some (nV (1 + n0)), some (nV (1 + m0))]) (h1 := S3 ++ os) (by simp [eqB, c0]), seq_nx (s1 := [some (.ref 0), some (nV d), some (nV (1 + n0)), some (nV (1 + m0))]) (h1 := S3 ++ os) (by simp [eqB, c1']), seq_nx (s1 := [some (.ref 0), some (nV d), some (nV (1 + n0)), some (nV (1 + m0))]) (h1 := S3 ++ os) (by simp [eqB, c2'])]
      exact e
end Mi.k13
set_option maxHeartbeats 4000000
namespace Mi.k13
open PySem L2
/-- the rows and the steps drawn so far -/
structure Rw (n m : Nat) (f g : Nat → Nat → Bool) (r : List Nat) (Rs : List (List Nat)) (ss : List (Nat × Nat)) : Prop where
  len : Rs.length = ss.length + 1
  ch : ∀ i, i ≤ ss.length → ∃ q, Rs[i]? = some q ∧ Ch n m f g r (ss.take i) q
theorem opM_is {f : MV → MV → MH → Res MV} {a b : ME} {s : MS} {h h1 h2 : MH} {x y : MV} (e1 : a s h = ok x h1) (e2 : b s h1 = ok y h2) : opM f a b s h = f x y h2 := by
  unfold opM
  rw [e1, bnd_ok, e2, bnd_ok]
theorem setM {r : List Nat} {x v : Nat} (hx : x < r.length) : (r.map nV).take x ++ [nV v] ++ (r.map nV).drop (x + 1) = (r.set x v).map nV := by
  rw [List.map_set, List.set_eq_take_append_cons_drop, if_pos (by simpa using hx)]
  simp
def hR (S : MH) (Rs : List (List Nat)) (ss : List (Nat × Nat)) : MH := S ++ [.lst (Rs.map rowT), .lst (ss.map prV)]
theorem hR_1 {S : MH} {Rs : List (List Nat)} {ss : List (Nat × Nat)} (hS : S.length = 1) : (hR S Rs ss)[1]? = some (.lst (Rs.map rowT)) := by
  unfold hR
  rw [ga0 hS]
  rfl
theorem hR_2 {S : MH} {Rs : List (List Nat)} {ss : List (Nat × Nat)} (hS : S.length = 1) : (hR S Rs ss)[2]? = some (.lst (ss.map prV)) := by
  unfold hR
  rw [ga (n := 1) (i := 1) hS]
  rfl
theorem hR_s1 {S : MH} {Rs Rs2 : List (List Nat)} {ss : List (Nat × Nat)} (hS : S.length = 1) : (hR S Rs ss).set 1 (.lst (Rs2.map rowT)) = hR S Rs2 ss := by
  unfold hR
  rw [sa0 hS]
  rfl
theorem hR_s2 {S : MH} {Rs : List (List Nat)} {ss ss2 : List (Nat × Nat)} (hS : S.length = 1) : (hR S Rs ss).set 2 (.lst (ss2.map prV)) = hR S Rs ss2 := by
  unfold hR
  rw [sa (n := 1) (i := 1) hS]
  rfl
def sL (n m : Nat) (f g : Nat → Nat → Bool) (L L2 : List Nat) (r : List Nat) (ns : List Int) (x11 : Option MV) : MS := [some (.frz (ns.map MV.int)), some (.ref 0), some (owV n f L), some (owV m g L2), some (rowT r), some (.ref 1), some (.ref 2), none, none, none, none, x11, none, none, none]
theorem tk_len {r : List Nat} : ∀ (k : Nat), (tb k fun x => MV.non).length = k := fun k => tb_len
/-- the steps are drawn -/
theorem loop1 {S : MH} {n m T : Nat} {f g : Nat → Nat → Bool} {L L2 r : List Nat} {ns : List Int} (hS : St S) (o1 : Ow n f L) (o2 : Ow m g L2) (hr : Mp n m r) (hT : T ≤ 6) : ∃ (Rs : List (List Nat)) (ss : List (Nat × Nat)) (S' : MH),
    forS (turnM (one 7) b1_law) ((List.range T).map nV) (sL n m f g L L2 r ns none) (hR S [r] []) = some (.nx (sL n m f g L L2 r ns none) (hR S' Rs ss)) ∧ Rw n m f g r Rs ss ∧ ss.length ≤ 6 ∧ St S' := by
  obtain ⟨⟨Rs, ss, S1⟩, e, h1, h2, h3⟩ := for_m (f := nV) (bd := turnM (one 7) b1_law) (xs := List.range T) (fun _ : List (List Nat) × List (Nat × Nat) × MH => sL n m f g L L2 r ns none) (fun a => hR a.2.2 a.1 a.2.1)
    (fun i a => Rw n m f g r a.1 a.2.1 ∧ a.2.1.length ≤ i ∧ St a.2.2) (a0 := ([r], [], S)) ⟨⟨rfl, fun i hi => ⟨r, by
      have : i = 0 := by simpa using hi
      subst this
      rfl, by
      rw [List.take_nil]
      exact .nil⟩⟩, Nat.le_refl _, hS⟩ fun i x a hx ⟨h1, h2, h3⟩ => by
      obtain ⟨Rs, ss, S1⟩ := a
      have hi : i < T := by
        have := (List.getElem?_eq_some_iff.mp hx).1
        simpa using this
      obtain ⟨q, hq, cq⟩ := h1.ch ss.length (Nat.le_refl _)
      rw [List.take_length] at cq
      have mq := cq.mp hr
      dsimp only at h2 h3
      have st := steps_of (kd := "good") (h := hR S1 Rs ss) o1 o2 mq
      obtain ⟨G, hG⟩ : ∃ G, G = stepsOf n m f g q "good" := ⟨_, rfl⟩
      rw [← hG] at st
      have a1 := hR_1 (Rs := Rs) (ss := ss) h3.len
      have a2 := hR_2 (Rs := Rs) (ss := ss) h3.len
      have lG : G.length ≤ 4096 := by
        rw [hG]
        exact Nat.le_trans steps_upto (Nat.mul_le_mul o1.le o2.le)
      show ∃ a', (b1_law ((sL n m f g L L2 r ns none).set 7 (some (nV x))) (hR S1 Rs ss) = _ ∨ _) ∧ _
      have s1 : setS 8 (callM f_law_steps_of [] (consA (varM 2) (consA (varM 3) (consA (opM ixF (varM 5) (bltM lenF (consA (varM 6) nilA))) (consA (cM (.str "good")) nilA))))) ((sL n m f g L L2 r ns none).set 7 (some (nV x))) (hR S1 Rs ss) = some (.nx (((sL n m f g L L2 r ns none).set 7 (some (nV x))).set 8 (some (.fls (G.map prV)))) (hR S1 Rs ss)) := by
        refine setS_ok (callM_ok (xs := [owV n f L, owV m g L2, rowT q, .str "good"]) ?_ st)
        simp [sL, a1, a2, atI_n, hq]
      by_cases c : G = []
      · refine ⟨(Rs, ss, S1), .inl ?_, h1, Nat.le_succ_of_le h2, h3⟩
        unfold b1_law wipT
        rw [seq_nx s1, c]
        simp [sL]
      · obtain ⟨d, S2, e2, hd, h4⟩ := draw (os := [.lst (Rs.map rowT), .lst (ss.map prV)]) (m := G.length) h3 (List.length_pos_iff.mpr c) (by omega)
        have e2' : f_law_draw [.ref 0, .int (G.length : Int)] (hR S1 Rs ss) = ok (.int (d : Int)) (hR S2 Rs ss) := e2
        obtain ⟨p, hp⟩ : ∃ p, G[d]? = some p := ⟨_, List.getElem?_eq_getElem hd⟩
        have hp3 := List.mem_of_getElem? hp
        rw [hG] at hp3
        obtain ⟨px, pv, pk⟩ := steps_mem.mp hp3
        have pok := (good_iff o2.so.irr).mp pk
        have b1 := hR_1 (Rs := Rs) (ss := ss) h4.len
        have b2 := hR_2 (Rs := Rs) (ss := ss) h4.len
        have hpq : p.1 < q.length := by rw [mq.len]; exact px
        have sm := setM (v := p.2) hpq
        have rl : Rs.length < lim := by
          rw [h1.len]
          unfold lim
          omega
        have sl' : ss.length < lim := by
          unfold lim
          omega
        refine ⟨(Rs ++ [q.set p.1 p.2], ss ++ [p], S2), .inl ?_, ⟨?_, fun j hj => ?_⟩, ?_, h4⟩
        · unfold b1_law wipT
          rw [seq_nx s1]
          have t1 : tstM (opM gtF (bltM lenF (consA (varM 8) nilA)) (cM (.int 0))) (((sL n m f g L L2 r ns none).set 7 (some (nV x))).set 8 (some (.fls (G.map prV)))) (hR S1 Rs ss) = ok true (hR S1 Rs ss) := by
            have : 0 < G.length := List.length_pos_iff.mpr c
            simp [sL, this]
          rw [ifS_t t1]
          have u1 : asgS (unp [9, 10]) (opM ixF (varM 8) (callM f_law_draw [] (consA (varM 1) (consA (bltM lenF (consA (varM 8) nilA)) nilA)))) (((sL n m f g L L2 r ns none).set 7 (some (nV x))).set 8 (some (.fls (G.map prV)))) (hR S1 Rs ss) = some (.nx (((((sL n m f g L L2 r ns none).set 7 (some (nV x))).set 8 (some (.fls (G.map prV)))).set 9 (some (nV p.1))).set 10 (some (nV p.2))) (hR S2 Rs ss)) := by
            simp [sL, e2', atI_n, hp]
          rw [seq_nx u1]
          have c1 : cutM (q.map nV) none (some (p.1 : Int)) = (q.map nV).take p.1 := cut_take
          have c2 : cutM (q.map nV) (some ((p.1 : Int) + 1)) none = (q.map nV).drop (p.1 + 1) := by
            rw [show (p.1 : Int) + 1 = ((p.1 + 1 : Nat) : Int) by omega, cut_drop]
          have s3 := hR_s1 (Rs := Rs) (Rs2 := Rs ++ [q.set p.1 p.2]) (ss := ss) h4.len
          have ql : q.length ≤ 64 := by rw [mq.len]; exact o1.le
          have u2 : dropS (mthM appF (varM 5) (consA (opM addF (opM addF (sliT (opM ixF (varM 5) (bltM lenF (consA (varM 6) nilA))) noO (someO (varM 9))) (tupM (consA (varM 10) nilA))) (sliT (opM ixF (varM 5) (bltM lenF (consA (varM 6) nilA))) (someO (opM addF (varM 9) (cM (.int 1)))) noO)) nilA)) (((((sL n m f g L L2 r ns none).set 7 (some (nV x))).set 8 (some (.fls (G.map prV)))).set 9 (some (nV p.1))).set 10 (some (nV p.2))) (hR S2 Rs ss) =
              some (.nx (((((sL n m f g L L2 r ns none).set 7 (some (nV x))).set 8 (some (.fls (G.map prV)))).set 9 (some (nV p.1))).set 10 (some (nV p.2))) (hR S2 (Rs ++ [q.set p.1 p.2]) ss)) := by
            have E : opM addF (opM addF (sliT (opM ixF (varM 5) (bltM lenF (consA (varM 6) nilA))) noO (someO (varM 9))) (tupM (consA (varM 10) nilA))) (sliT (opM ixF (varM 5) (bltM lenF (consA (varM 6) nilA))) (someO (opM addF (varM 9) (cM (.int 1)))) noO) (((((sL n m f g L L2 r ns none).set 7 (some (nV x))).set 8 (some (.fls (G.map prV)))).set 9 (some (nV p.1))).set 10 (some (nV p.2))) (hR S2 Rs ss) = ok (rowT (q.set p.1 p.2)) (hR S2 Rs ss) := by
              have l1 : ((q.map nV).take p.1).length + 1 ≤ lim := by
                rw [List.length_take, List.length_map]
                unfold lim
                omega
              have l2 : (((q.map nV).take p.1) ++ [nV p.2]).length + ((q.map nV).drop (p.1 + 1)).length ≤ lim := by
                rw [List.length_append, List.length_take, List.length_drop, List.length_map]
                unfold lim
                show min p.1 q.length + 1 + _ ≤ _
                omega
              generalize hA : (q.map nV).take p.1 = A at *
              generalize hB : (q.map nV).drop (p.1 + 1) = B at *
              have A1 : sliT (opM ixF (varM 5) (bltM lenF (consA (varM 6) nilA))) noO (someO (varM 9)) (((((sL n m f g L L2 r ns none).set 7 (some (nV x))).set 8 (some (.fls (G.map prV)))).set 9 (some (nV p.1))).set 10 (some (nV p.2))) (hR S2 Rs ss) = ok (.tup A) (hR S2 Rs ss) := by
                simp [sL, b1, b2, atI_n, hq]
                exact c1
              have A2 : sliT (opM ixF (varM 5) (bltM lenF (consA (varM 6) nilA))) (someO (opM addF (varM 9) (cM (.int 1)))) noO (((((sL n m f g L L2 r ns none).set 7 (some (nV x))).set 8 (some (.fls (G.map prV)))).set 9 (some (nV p.1))).set 10 (some (nV p.2))) (hR S2 Rs ss) = ok (.tup B) (hR S2 Rs ss) := by
                simp [sL, b1, b2, atI_n, hq]
                exact c2
              have A3 : opM addF (sliT (opM ixF (varM 5) (bltM lenF (consA (varM 6) nilA))) noO (someO (varM 9))) (tupM (consA (varM 10) nilA)) (((((sL n m f g L L2 r ns none).set 7 (some (nV x))).set 8 (some (.fls (G.map prV)))).set 9 (some (nV p.1))).set 10 (some (nV p.2))) (hR S2 Rs ss) = ok (.tup (A ++ [nV p.2])) (hR S2 Rs ss) := by
                have : tupM (consA (varM 10) nilA) (((((sL n m f g L L2 r ns none).set 7 (some (nV x))).set 8 (some (.fls (G.map prV)))).set 9 (some (nV p.1))).set 10 (some (nV p.2))) (hR S2 Rs ss) = ok (.tup [nV p.2]) (hR S2 Rs ss) := tupM_ok rfl (by simp)
                rw [opM_is A1 this]
                exact if_pos l1
              rw [opM_is A3 A2]
              exact (if_pos l2).trans (by rw [sm])
            have e5 : varM 5 (((((sL n m f g L L2 r ns none).set 7 (some (nV x))).set 8 (some (.fls (G.map prV)))).set 9 (some (nV p.1))).set 10 (some (nV p.2))) (hR S2 Rs ss) = ok (.ref 1) (hR S2 Rs ss) := rfl
            unfold dropS mthM
            rw [e5, bnd_ok]
            have il : isL (hR S2 Rs ss) (.ref 1) = true := by simp [b1]
            rw [if_pos il, consA_ok E rfl, bnd_ok]
            have s3' : (hR S2 Rs ss).set 1 (.lst (Rs.map rowT ++ [rowT (q.set p.1 p.2)])) = hR S2 (Rs ++ [q.set p.1 p.2]) ss := by
              rw [← s3]
              simp
            simp only [appF, b1, List.length_map, if_pos rl, bndS_ok, s3']
          rw [seq_nx u2]
          have b3 := hR_2 (Rs := Rs ++ [q.set p.1 p.2]) (ss := ss) h4.len
          have s4 := hR_s2 (Rs := Rs ++ [q.set p.1 p.2]) (ss := ss) (ss2 := ss ++ [p]) h4.len
          have s4' : (hR S2 (Rs ++ [q.set p.1 p.2]) ss).set 2 (.lst (ss.map prV ++ [prV p])) = hR S2 (Rs ++ [q.set p.1 p.2]) (ss ++ [p]) := by
            rw [← s4]
            simp
          simp [sL, b3, sl', s4', lim]
          have sl2 : ss.length < 1000000 := by omega
          simp [sl2, s4']
        · show (Rs ++ [q.set p.1 p.2]).length = (ss ++ [p]).length + 1
          rw [List.length_append, List.length_append, h1.len]
          rfl
        · rw [List.length_append] at hj
          have hj' : j ≤ ss.length + 1 := hj
          by_cases z : j ≤ ss.length
          · obtain ⟨w, hw, cw⟩ := h1.ch j z
            refine ⟨w, by rw [List.getElem?_append_left (List.getElem?_eq_some_iff.mp hw).1]; exact hw, ?_⟩
            show Ch n m f g r ((ss ++ [p]).take j) w
            rw [List.take_append_of_le_length z]
            exact cw
          · have : j = ss.length + 1 := by omega
            subst this
            refine ⟨q.set p.1 p.2, ?_, ?_⟩
            · show (Rs ++ [q.set p.1 p.2])[ss.length + 1]? = _
              rw [← h1.len]
              simp
            · show Ch n m f g r ((ss ++ [p]).take (ss.length + 1)) _
              rw [List.take_of_length_le (by simp)]
              exact cq.snoc px pv pok
        · show (ss ++ [p]).length ≤ i + 1
          rw [List.length_append]
          show ss.length + 1 ≤ i + 1
          omega
  rw [List.length_range] at h2
  exact ⟨Rs, ss, S1, e, h1, Nat.le_trans h2 hT, h3⟩
end Mi.k13
set_option maxHeartbeats 4000000
namespace Mi.k13
open PySem L2
theorem consA_1 {a : ME} {s : MS} {h h1 : MH} {x : MV} (e : a s h = ok x h1) : consA a nilA s h = ok [x] h1 := consA_ok e rfl
theorem hRo {S : MH} {Rs : List (List Nat)} {ss : List (Nat × Nat)} {o : MO} (hS : S.length = 1) : (hR S Rs ss ++ [o])[3]? = some o := by
  unfold hR
  rw [List.append_assoc, ga (n := 1) (i := 2) hS]
  rfl
theorem hRo_s {S : MH} {Rs : List (List Nat)} {ss : List (Nat × Nat)} {o u : MO} (hS : S.length = 1) : (hR S Rs ss ++ [o]).set 3 u = hR S Rs ss ++ [u] := by
  unfold hR
  rw [List.append_assoc, sa (n := 1) (i := 2) hS, List.append_assoc]
  rfl
theorem hR_len {S : MH} {Rs : List (List Nat)} {ss : List (Nat × Nat)} (hS : S.length = 1) : (hR S Rs ss).length = 3 := by
  unfold hR
  simp [hS]
theorem turn2 {S : MH} {n m : Nat} {f g : Nat → Nat → Bool} {L L2 r : List Nat} {ns : List Int} {Rs : List (List Nat)} {ss : List (Nat × Nat)} {t pt : Nat} (hS : St S) (o1 : Ow n f L) (o2 : Ow m g L2) (hr : Mp n m r) (R : Rw n m f g r Rs ss) (hl : ss.length ≤ 6) : ∃ S', turnM (one 12) b2_law (nV t) (sL n m f g L L2 r ns (some (nV pt))) (hR S Rs ss) = some (.nx (sL n m f g L L2 r ns (some (nV pt))) (hR S' Rs ss)) ∧ St S' := by
  obtain ⟨at_, S1, e1, hat, h1⟩ := draw (os := [.lst (Rs.map rowT), .lst (ss.map prV)]) (m := ss.length + 1) hS (by omega) (by omega)
  have e1' : f_law_draw [.ref 0, .int ((ss.length : Int) + 1)] (hR S Rs ss) = ok (.int (at_ : Int)) (hR S1 Rs ss) := by
    rw [show ((ss.length : Int) + 1) = ((ss.length + 1 : Nat) : Int) by omega]
    exact e1
  obtain ⟨q, hq, cq⟩ := R.ch at_ (by omega)
  have mq := cq.mp hr
  obtain ⟨a, b, S2, e2, nb, h2⟩ := wrong (os := [.lst (Rs.map rowT), .lst (ss.map prV)]) h1 o1 o2 mq
  have e2' : f_law_wrong [.ref 0, owV n f L, owV m g L2, rowT q] (hR S1 Rs ss) = ok (.tup [.int a, .int b]) (hR S2 Rs ss) := e2
  have a1 := hR_1 (Rs := Rs) (ss := ss) hS.len
  have a2 := hR_2 (Rs := Rs) (ss := ss) hS.len
  have b1 := hR_1 (Rs := Rs) (ss := ss) h1.len
  have b2 := hR_2 (Rs := Rs) (ss := ss) h1.len
  have d2 := hR_2 (Rs := Rs) (ss := ss) h2.len
  obtain ⟨xs, hxs⟩ : ∃ xs, xs = (ss.take at_).map prV ++ ipV (a, b) :: (ss.drop at_).map prV := ⟨_, rfl⟩
  have len2 := hR_len (Rs := Rs) (ss := ss) h2.len
  obtain ⟨d, S3, e3, hd, h3⟩ := draw (os := [.lst (Rs.map rowT), .lst (ss.map prV), .lst xs]) (m := 2) h2 (by omega) (by omega)
  have e3' : f_law_draw [.ref 0, .int 2] (hR S2 Rs ss ++ [.lst xs]) = ok (.int (d : Int)) (hR S3 Rs ss ++ [.lst xs]) := by
    have : ∀ S : MH, hR S Rs ss ++ [.lst xs] = S ++ [.lst (Rs.map rowT), .lst (ss.map prV), .lst xs] := fun S => by simp [hR]
    rw [this, this]
    exact e3
  have len : n ≤ 64 := o1.le
  have hrl := hr.len
  have xl : xs.length ≤ 7 := by
    rw [hxs]
    simp
    omega
  obtain ⟨tl, htl⟩ : ∃ tl, tl = (ss.drop at_).map prV ++ (if d = 0 then [MV.tup [nV n, .int 0]] else []) := ⟨_, rfl⟩
  obtain ⟨ys, hys⟩ : ∃ ys, ys = (ss.take at_).map prV ++ ipV (a, b) :: tl := ⟨_, rfl⟩
  have tlen : (ss.take at_).length = at_ := by
    rw [List.length_take]
    omega
  have ak := asked_bad (tl := tl) (sv := .ref 3) (b := decide ((t : Int) = 1)) (h := hR S3 Rs ss ++ [.lst ys]) o1 o2 hr cq nb (by
    have := hRo (Rs := Rs) (ss := ss) (o := .lst ys) h3.len
    rw [← hys]
    simp only [seqOf, lstOf, this]) (fun _ z => (nomatch z))
  rw [tlen] at ak
  have sm := same (v := .fls [.str "step", .int (at_ : Int), .bl true]) (h := hR S3 Rs ss ++ [.lst ys]) (by simp [plB])
  refine ⟨S3, ?_, h3⟩
  show b2_law ((sL n m f g L L2 r ns (some (nV pt))).set 12 (some (nV t))) (hR S Rs ss) = _
  have main : wipT [12, 13, 14] (seqS (setS 13 (callM f_law_draw [] (consA (varM 1) (consA (opM addF (bltM lenF (consA (varM 6) nilA)) (cM (.int 1))) nilA))))
    (seqS (setS 14 (refM (catL (flsM (catL (sliT (varM 6) noO (someO (varM 13))) (flsM (lstM (consA (callM f_law_wrong [] (consA (varM 1) (consA (varM 2) (consA (varM 3) (consA (opM ixF (varM 5) (varM 13)) nilA))))) nilA))))) (sliT (varM 6) (someO (varM 13)) noO))))
    (seqS (ifS (tstM (opM eqF (callM f_law_draw [] (consA (varM 1) (consA (cM (.int 2)) nilA))) (cM (.int 0)))) (dropS (mthM appF (varM 14) (consA (tupM (consA (bltM lenF (consA (varM 4) nilA)) (consA (cM (.int 0)) nilA))) nilA))) nilS)
    (ifS (notT (truM (callM f_law_same [] (consA (callM f_law_asked [] (consA (varM 2) (consA (varM 3) (consA (varM 4) (consA (varM 14) (consA (opM eqF (varM 12) (cM (.int 1))) nilA)))))) (consA (flsM (lstM (consA (cM (.str "step")) (consA (varM 13) (consA (cM (.bl true)) nilA))))) nilA))))) (retS (cM (.bl false))) nilS)))) ((sL n m f g L L2 r ns (some (nV pt))).set 12 (some (nV t))) (hR S Rs ss) = some (.nx (sL n m f g L L2 r ns (some (nV pt))) (hR S3 Rs ss ++ [.lst ys])) := by
    unfold wipT
    have s1 : setS 13 (callM f_law_draw [] (consA (varM 1) (consA (opM addF (bltM lenF (consA (varM 6) nilA)) (cM (.int 1))) nilA))) ((sL n m f g L L2 r ns (some (nV pt))).set 12 (some (nV t))) (hR S Rs ss) = some (.nx (((sL n m f g L L2 r ns (some (nV pt))).set 12 (some (nV t))).set 13 (some (nV at_))) (hR S1 Rs ss)) := by
      simp [sL, a2, e1']
    rw [seq_nx s1]
    have c1 : cutM (ss.map prV) none (some (at_ : Int)) = (ss.take at_).map prV := by rw [cut_take, List.map_take]
    have c2 : cutM (ss.map prV) (some (at_ : Int)) none = (ss.drop at_).map prV := by rw [cut_drop, List.map_drop]
    have l1 : ((ss.take at_).map prV).length + 1 ≤ lim := by
      rw [List.length_map, tlen]
      unfold lim
      omega
    have l2 : ((ss.take at_).map prV).length + 1 + ((ss.drop at_).map prV).length ≤ lim := by
      rw [List.length_map, List.length_map, List.length_drop, tlen]
      unfold lim
      omega
    have s2 : setS 14 (refM (catL (flsM (catL (sliT (varM 6) noO (someO (varM 13))) (flsM (lstM (consA (callM f_law_wrong [] (consA (varM 1) (consA (varM 2) (consA (varM 3) (consA (opM ixF (varM 5) (varM 13)) nilA))))) nilA))))) (sliT (varM 6) (someO (varM 13)) noO))) (((sL n m f g L L2 r ns (some (nV pt))).set 12 (some (nV t))).set 13 (some (nV at_))) (hR S1 Rs ss) =
        some (.nx ((((sL n m f g L L2 r ns (some (nV pt))).set 12 (some (nV t))).set 13 (some (nV at_))).set 14 (some (.ref 3))) (hR S2 Rs ss ++ [.lst xs])) := by
      rw [hxs]
      generalize (ss.take at_).map prV = A at *
      generalize (ss.drop at_).map prV = B at *
      have l3 : 1 ≤ lim := by unfold lim; omega
      have hq2 : (Rs.map rowT)[at_]? = some (rowT q) := by
        rw [List.getElem?_map, hq]
        rfl
      generalize Rs.map rowT = RR at b1 hq2
      have pl : MV.ref (hR S2 Rs ss).length = .ref 3 := by rw [len2]
      simp [sL, b2, c1, b1, atI_n, hq2, e2', d2, c2, l1, l2, l3, pl]
    rw [seq_nx s2]
    have s3 : ifS (tstM (opM eqF (callM f_law_draw [] (consA (varM 1) (consA (cM (.int 2)) nilA))) (cM (.int 0)))) (dropS (mthM appF (varM 14) (consA (tupM (consA (bltM lenF (consA (varM 4) nilA)) (consA (cM (.int 0)) nilA))) nilA))) nilS ((((sL n m f g L L2 r ns (some (nV pt))).set 12 (some (nV t))).set 13 (some (nV at_))).set 14 (some (.ref 3))) (hR S2 Rs ss ++ [.lst xs]) =
        some (.nx ((((sL n m f g L L2 r ns (some (nV pt))).set 12 (some (nV t))).set 13 (some (nV at_))).set 14 (some (.ref 3))) (hR S3 Rs ss ++ [.lst ys])) := by
      have g3 := hRo (Rs := Rs) (ss := ss) (o := .lst xs) h3.len
      by_cases c : d = 0
      · have s4 := hRo_s (Rs := Rs) (ss := ss) (o := .lst xs) (u := .lst (xs ++ [.tup [nV n, .int 0]])) h3.len
        have ye : ys = xs ++ [.tup [nV n, .int 0]] := by
          rw [hys, htl, if_pos c, hxs]
          simp
        have xl2 : xs.length < lim := by unfold lim; omega
        subst c
        rw [ye]
        have l22 : 2 ≤ lim := by unfold lim; omega
        simp [sL, e3', eqB, g3, hrl, xl2, s4, l22]
      · have ye : ys = xs := by
          rw [hys, htl, if_neg c, hxs]
          simp
        rw [ye]
        simp [sL, e3', eqB, c]
    rw [seq_nx s3]
    have t1 : notT (truM (callM f_law_same [] (consA (callM f_law_asked [] (consA (varM 2) (consA (varM 3) (consA (varM 4) (consA (varM 14) (consA (opM eqF (varM 12) (cM (.int 1))) nilA)))))) (consA (flsM (lstM (consA (cM (.str "step")) (consA (varM 13) (consA (cM (.bl true)) nilA))))) nilA)))) ((((sL n m f g L L2 r ns (some (nV pt))).set 12 (some (nV t))).set 13 (some (nV at_))).set 14 (some (.ref 3))) (hR S3 Rs ss ++ [.lst ys]) = ok false (hR S3 Rs ss ++ [.lst ys]) := by
      have A1 : consA (varM 2) (consA (varM 3) (consA (varM 4) (consA (varM 14) (consA (opM eqF (varM 12) (cM (.int 1))) nilA)))) ((((sL n m f g L L2 r ns (some (nV pt))).set 12 (some (nV t))).set 13 (some (nV at_))).set 14 (some (.ref 3))) (hR S3 Rs ss ++ [.lst ys]) = ok [owV n f L, owV m g L2, rowT r, .ref 3, .bl (decide ((t : Int) = 1))] (hR S3 Rs ss ++ [.lst ys]) := by
        simp [sL, eqB]
      have A2 := callM_ok (f := f_law_asked) (ds := []) A1 ak
      have A3 : flsM (lstM (consA (cM (.str "step")) (consA (varM 13) (consA (cM (.bl true)) nilA)))) ((((sL n m f g L L2 r ns (some (nV pt))).set 12 (some (nV t))).set 13 (some (nV at_))).set 14 (some (.ref 3))) (hR S3 Rs ss ++ [.lst ys]) = ok (.fls [.str "step", .int (at_ : Int), .bl true]) (hR S3 Rs ss ++ [.lst ys]) := by
        simp [sL, lim]
      exact notcall_t (f := f_law_same) (ds := []) (b := true) (consA_ok A2 (consA_1 A3)) sm
    rw [ifS_f t1]
    rfl
  have m2 : wipT [12, 13, 14] (seqS (setS 13 (callM f_law_draw [] (consA (varM 1) (consA (opM addF (bltM lenF (consA (varM 6) nilA)) (cM (.int 1))) nilA))))
    (seqS (setS 14 (refM (catL (flsM (catL (sliT (varM 6) noO (someO (varM 13))) (flsM (lstM (consA (callM f_law_wrong [] (consA (varM 1) (consA (varM 2) (consA (varM 3) (consA (opM ixF (varM 5) (varM 13)) nilA))))) nilA))))) (sliT (varM 6) (someO (varM 13)) noO))))
    (seqS (ifS (tstM (opM eqF (callM f_law_draw [] (consA (varM 1) (consA (cM (.int 2)) nilA))) (cM (.int 0)))) (dropS (mthM appF (varM 14) (consA (tupM (consA (bltM lenF (consA (varM 4) nilA)) (consA (cM (.int 0)) nilA))) nilA))) nilS)
    (ifS (notT (truM (callM f_law_same [] (consA (callM f_law_asked [] (consA (varM 2) (consA (varM 3) (consA (varM 4) (consA (varM 14) (consA (opM eqF (varM 12) (cM (.int 1))) nilA)))))) (consA (flsM (lstM (consA (cM (.str "step")) (consA (varM 13) (consA (cM (.bl true)) nilA))))) nilA))))) (retS (cM (.bl false))) nilS)))) ((sL n m f g L L2 r ns (some (nV pt))).set 12 (some (nV t))) (S ++ [.lst (Rs.map rowT), .lst (ss.map prV)]) = some (.nx (sL n m f g L L2 r ns (some (nV pt))) (S3 ++ ([.lst (Rs.map rowT), .lst (ss.map prV)] ++ [.lst ys]))) := by
    rw [← List.append_assoc]
    exact main
  refine cutT_s m2 (by rw [h3.len, hS.len]) h3.self ?_
  have : (S ++ [MO.lst (Rs.map rowT), .lst (ss.map prV)]).length = 3 := by simp [hS.len]
  rw [this]
  have c1 : ∀ {xs : List Int}, cloL 3 (xs.map MV.int) = true := clo_ints
  simp [sL, cloS, cloV]
theorem main : ∀ ns : List Int, ns.length ≤ 63 → ∃ h, f_law [.frz (ns.map MV.int)] [] = ok (.bl true) h := fun ns hns => by
  obtain ⟨S0, e0, h0⟩ := start (h := []) hns
  obtain ⟨n, m, f, g, L, L2, S1, e1, o1, o2, nm, h1⟩ := orders_ (os := []) h0
  obtain ⟨r, S2, e2, hr, h2⟩ := map_ (os := []) h1 o1 o2 nm
  rw [List.append_nil, List.append_nil] at e1 e2
  have hrl := hr.len
  have mp := hr.toMp
  obtain ⟨T, hT⟩ : ∃ T : Nat, T = if 12 < n then 2 else 6 := ⟨_, rfl⟩
  have hT6 : T ≤ 6 ∧ 0 < T := by
    rw [hT]
    split <;> omega
  obtain ⟨c, S3, e3, hc, h3⟩ := draw (os := [.lst [rowT r], .lst []]) (m := T) h2 hT6.2 (by omega)
  obtain ⟨Rs, ss, S4, e4, R, hl, h4⟩ := loop1 (T := c) (ns := ns) h3 o1 o2 mp (by omega)
  have e4' := e4
  rw [← run_m] at e4'
  unfold sL at e4'
  obtain ⟨q, hq, cq⟩ := R.ch ss.length (Nat.le_refl _)
  rw [List.take_length] at cq
  obtain ⟨pt, S5, e5, hpt, h5⟩ := draw (os := [.lst (Rs.map rowT), .lst (ss.map prV)]) (m := ss.length + 1) h4 (by omega) (by omega)
  obtain ⟨w, hw, cw⟩ := R.ch pt (by omega)
  obtain ⟨W, hW⟩ : ∃ W : Nat, W = if 12 < n then 1 else 3 := ⟨_, rfl⟩
  obtain ⟨S6, e6, _, h6⟩ := for_m (f := nV) (bd := turnM (one 12) b2_law) (xs := List.range W) (fun _ : MH => sL n m f g L L2 r ns (some (nV pt))) (fun S => hR S Rs ss) (fun _ S => True ∧ St S) (a0 := S5) ⟨trivial, h5⟩ fun i x S hx ⟨_, hS⟩ => by
    obtain ⟨S', e, h'⟩ := turn2 (t := x) (pt := pt) (ns := ns) hS o1 o2 mp R hl
    exact ⟨S', .inl e, trivial, h'⟩
  have nw := o1.le
  have a1 := hR_1 (Rs := Rs) (ss := ss) h4.len
  have a2 := hR_2 (Rs := Rs) (ss := ss) h4.len
  have b1 := hR_1 (Rs := Rs) (ss := ss) h5.len
  have b2 := hR_2 (Rs := Rs) (ss := ss) h5.len
  have ak1 := asked_good (sv := .ref 2) (b := false) (h := hR S4 Rs ss) o1 o2 mp cq (by simp [a2]) (fun _ z => (nomatch z))
  have plt : ∀ r : List Nat, r.length ≤ 64 → plB 5 (.tup [.str "told", rowT r]) = true := fun r hr => by
    have e : plB 4 (rowT r) = true := by
      show ((r.map nV).all (plB 3) && decide ((r.map nV).length ≤ 5000)) = true
      rw [List.length_map, decide_eq_true (by omega), Bool.and_true, List.all_eq_true]
      intro x hx
      obtain ⟨i, _, ei⟩ := List.mem_map.mp hx
      rw [← ei]
      rfl
    show ([MV.str "told", rowT r].all (plB 4) && decide (([MV.str "told", rowT r] : List MV).length ≤ 5000)) = true
    simp [e]
    rfl
  have sm1 := same (v := .tup [.str "told", rowT q]) (h := hR S4 Rs ss) (plt q (by rw [(cq.mp mp).len]; exact nw))
  have ak2 := asked_good (sv := .fls ((ss.take pt).map prV)) (b := true) (h := hR S5 Rs ss) o1 o2 mp cw (by simp) (fun _ z => (nomatch z))
  have sm2 := same (v := .tup [.str "told", rowT w]) (h := hR S5 Rs ss) (plt w (by rw [(cw.mp mp).len]; exact nw))
  refine ⟨hR S6 Rs ss, ?_⟩
  refine defM_ret rfl ?_
  show m_law [some (.frz (ns.map MV.int)), none, none, none, none, none, none, none, none, none, none, none, none, none, none] [] = _
  unfold m_law
  rw [seq_nx (s1 := [some (.frz (ns.map MV.int)), some (.ref 0), none, none, none, none, none, none, none, none, none, none, none, none, none]) (h1 := S0) (by simp [e0]),
    seq_nx (s1 := [some (.frz (ns.map MV.int)), some (.ref 0), some (owV n f L), some (owV m g L2), none, none, none, none, none, none, none, none, none, none, none]) (h1 := S1) (by simp [e1]),
    seq_nx (s1 := [some (.frz (ns.map MV.int)), some (.ref 0), some (owV n f L), some (owV m g L2), some (rowT r), none, none, none, none, none, none, none, none, none, none]) (h1 := S2) (by simp [e2]),
    seq_nx (s1 := [some (.frz (ns.map MV.int)), some (.ref 0), some (owV n f L), some (owV m g L2), some (rowT r), some (.ref 1), none, none, none, none, none, none, none, none, none]) (h1 := S2 ++ [.lst [rowT r]]) (by simp [lim, h2.len]),
    seq_nx (s1 := sL n m f g L L2 r ns none) (h1 := hR S2 [r] []) (by simp [sL, hR, lim, h2.len])]
  have e3' : f_law_draw [.ref 0, nV T] (hR S2 [r] []) = ok (nV c) (hR S3 [r] []) := e3
  have p1 : preW [7, 8, 9, 10] (forM (rng1 (consA (callM f_law_draw [] (consA (varM 1) (consA (opM ixF (flsM (lstM (consA (cM (.int 6)) (consA (cM (.int 2)) nilA)))) (bltM intF (consA (opM gtF (bltM lenF (consA (varM 4) nilA)) (cM (.int 12))) nilA))) nilA))) nilA)) (one 7) b1_law) (sL n m f g L L2 r ns none) (hR S2 [r] []) = some (.nx (sL n m f g L L2 r ns none) (hR S4 Rs ss)) := by
    have q1 : (c : Int) ≤ 1000000 := by omega
    have q2 : (-1000000 : Int) ≤ c := by omega
    by_cases z : 12 < n
    · have z' : (12 : Int) < n := by omega
      rw [hT, if_pos z] at e3'
      have e3'' : f_law_draw [.ref 0, .int 2] (hR S2 [r] []) = ok (.int (c : Int)) (hR S3 [r] []) := e3'
      simp [sL, hrl, z', lim, atI_1, e3'', q1, q2, e4']
    · have z' : ¬ (12 : Int) < n := by omega
      rw [hT, if_neg z] at e3'
      have e3'' : f_law_draw [.ref 0, .int 6] (hR S2 [r] []) = ok (.int (c : Int)) (hR S3 [r] []) := e3'
      simp [sL, hrl, z', lim, atI_0, e3'', q1, q2, e4']
  rw [seq_nx p1]
  have hq2 : (Rs.map rowT)[ss.length]? = some (rowT q) := by rw [List.getElem?_map, hq]; rfl
  have hw2 : (Rs.map rowT)[pt]? = some (rowT w) := by rw [List.getElem?_map, hw]; rfl
  have p2 : ifS (notT (truM (callM f_law_same [] (consA (callM f_law_asked [] (consA (varM 2) (consA (varM 3) (consA (varM 4) (consA (varM 6) (consA (cM (.bl false)) nilA)))))) (consA (tupM (consA (cM (.str "told")) (consA (opM ixF (varM 5) (bltM lenF (consA (varM 6) nilA))) nilA))) nilA))))) (retS (cM (.bl false))) nilS (sL n m f g L L2 r ns none) (hR S4 Rs ss) = some (.nx (sL n m f g L L2 r ns none) (hR S4 Rs ss)) := by
    have A2 := callM_ok (f := f_law_asked) (ds := []) (a := consA (varM 2) (consA (varM 3) (consA (varM 4) (consA (varM 6) (consA (cM (.bl false)) nilA))))) (s := sL n m f g L L2 r ns none) (h := hR S4 Rs ss) (xs := [owV n f L, owV m g L2, rowT r, .ref 2, .bl false]) (by simp [sL]) ak1
    have A3 : tupM (consA (cM (.str "told")) (consA (opM ixF (varM 5) (bltM lenF (consA (varM 6) nilA))) nilA)) (sL n m f g L L2 r ns none) (hR S4 Rs ss) = ok (.tup [.str "told", rowT q]) (hR S4 Rs ss) := by
      generalize Rs.map rowT = RR at a1 hq2
      simp [sL, a1, a2, atI_n, hq2, lim]
    rw [ifS_f (notcall_t (f := f_law_same) (ds := []) (b := true) (consA_ok A2 (consA_1 A3)) sm1)]
    rfl
  rw [seq_nx p2]
  have e5' : f_law_draw [.ref 0, .int ((ss.length : Int) + 1)] (hR S4 Rs ss) = ok (.int (pt : Int)) (hR S5 Rs ss) := by
    rw [show ((ss.length : Int) + 1) = ((ss.length + 1 : Nat) : Int) by omega]
    exact e5
  rw [seq_nx (s1 := sL n m f g L L2 r ns (some (nV pt))) (h1 := hR S5 Rs ss) (by simp [sL, a2, e5'])]
  have p3 : ifS (notT (truM (callM f_law_same [] (consA (callM f_law_asked [] (consA (varM 2) (consA (varM 3) (consA (varM 4) (consA (sliT (varM 6) noO (someO (varM 11))) (consA (cM (.bl true)) nilA)))))) (consA (tupM (consA (cM (.str "told")) (consA (opM ixF (varM 5) (varM 11)) nilA))) nilA))))) (retS (cM (.bl false))) nilS (sL n m f g L L2 r ns (some (nV pt))) (hR S5 Rs ss) = some (.nx (sL n m f g L L2 r ns (some (nV pt))) (hR S5 Rs ss)) := by
    have c1 : cutM (ss.map prV) none (some (pt : Int)) = (ss.take pt).map prV := by rw [cut_take, List.map_take]
    have A1 : consA (varM 2) (consA (varM 3) (consA (varM 4) (consA (sliT (varM 6) noO (someO (varM 11))) (consA (cM (.bl true)) nilA)))) (sL n m f g L L2 r ns (some (nV pt))) (hR S5 Rs ss) = ok [owV n f L, owV m g L2, rowT r, .fls ((ss.take pt).map prV), .bl true] (hR S5 Rs ss) := by
      generalize (ss.take pt).map prV = A at *
      simp [sL, b2, c1]
    have A2 := callM_ok (f := f_law_asked) (ds := []) A1 ak2
    have A3 : tupM (consA (cM (.str "told")) (consA (opM ixF (varM 5) (varM 11)) nilA)) (sL n m f g L L2 r ns (some (nV pt))) (hR S5 Rs ss) = ok (.tup [.str "told", rowT w]) (hR S5 Rs ss) := by
      generalize Rs.map rowT = RR at b1 hw2
      simp [sL, b1, atI_n, hw2, lim]
    rw [ifS_f (notcall_t (f := f_law_same) (ds := []) (b := true) (consA_ok A2 (consA_1 A3)) sm2)]
    rfl
  rw [seq_nx p3]
  have p4 : preW [12, 13, 14] (forM (rng1 (consA (opM ixF (flsM (lstM (consA (cM (.int 3)) (consA (cM (.int 1)) nilA)))) (bltM intF (consA (opM gtF (bltM lenF (consA (varM 4) nilA)) (cM (.int 12))) nilA))) nilA)) (one 12) b2_law) (sL n m f g L L2 r ns (some (nV pt))) (hR S5 Rs ss) = some (.nx (sL n m f g L L2 r ns (some (nV pt))) (hR S6 Rs ss)) := by
    rw [← run_m] at e6
    unfold sL at e6
    by_cases z : 12 < n
    · have z' : (12 : Int) < n := by omega
      rw [hW, if_pos z] at e6
      simp [sL, hrl, z', lim, atI_1, e6]
    · have z' : ¬ (12 : Int) < n := by omega
      rw [hW, if_neg z] at e6
      simp [sL, hrl, z', lim, atI_0, e6]
  rw [seq_nx p4]
  rfl
end Mi.k13
set_option maxHeartbeats 2000000
namespace Mi.k14
open PySem L2
noncomputable section
def m_law_start : MT := (seqS (setS 1 (flsM (lcM (seqI (varM 0)) [2] (one 2) yesT (bltM intF (consA (varM 2) nilA)))))
    (retS (refM (lstM (consA (varM 1) (consA (cM (.int 0)) (consA (cM (.int 0)) (consA (cM (.int 0)) (consA (cM (.int 0)) (consA (flsM (lcM (seqI (varM 1)) [2] (one 2) yesT (opM modF (bltM intF (consA (varM 2) nilA)) (cM (.int 2147483629))))) nilA))))))))))
def f_law_start : MF := defM 1 3 m_law_start
theorem n_law_start : ∀ (xs : List MV) (h : MH), (f_law_start xs h).isSome = true → xs.length = 1 := fun _ _ e => defM_len e
def m_law_mixed : MT := (seqS (setS 2 (opM modF (bltM intF (consA (opM addF (opM addF (opM mulF (varM 0) (cM (.int 48271))) (opM mulF (varM 1) (cM (.int 69621)))) (cM (.int 12345))) nilA)) (cM (.int 2147483647))))
    (seqS (setS 3 (opM modF (bltM intF (consA (opM addF (opM addF (opM mulF (varM 2) (varM 2)) (opM mulF (varM 1) (cM (.int 40692)))) (opM divF (varM 2) (cM (.int 7)))) nilA)) (cM (.int 2147483399))))
    (retS (opM modF (bltM intF (consA (opM addF (opM addF (opM mulF (varM 3) (cM (.int 16807))) (opM divF (varM 3) (cM (.int 1013)))) (varM 1)) nilA)) (cM (.int 998244353))))))
def f_law_mixed : MF := defM 2 4 m_law_mixed
theorem n_law_mixed : ∀ (xs : List MV) (h : MH), (f_law_mixed xs h).isSome = true → xs.length = 2 := fun _ _ e => defM_len e
def m_law_draw : MT := (seqS (subS (opM addF (opM ixF (varM 0) (cM (.int 4))) (cM (.int 1))) (varM 0) (cM (.int 4)))
    (seqS (setS 2 (opM ixF (varM 0) (cM (.int 4))))
    (seqS (ifS (orT (tstM (opM eqF (opM ixF (varM 0) (cM (.int 2))) (cM (.int 0)))) (tstM (opM eqF (opM ixF (varM 0) (cM (.int 3))) (cM (.int 0))))) (seqS (ifS (tstM (opM geF (opM ixF (varM 0) (cM (.int 1))) (bltM lenF (consA (opM ixF (varM 0) (cM (.int 0))) nilA)))) (seqS (setS 3 (cM (.int 0)))
    (seqS (ifS (tstM (opM gtF (bltM lenF (consA (opM ixF (varM 0) (cM (.int 5))) nilA)) (cM (.int 0)))) (setS 3 (opM ixF (opM ixF (varM 0) (cM (.int 5))) (opM modF (bltM intF (consA (varM 2) nilA)) (bltM lenF (consA (opM ixF (varM 0) (cM (.int 5))) nilA))))) nilS)
    (retS (opM modF (bltM intF (consA (callM f_law_mixed [] (consA (varM 3) (consA (varM 2) nilA))) nilA)) (varM 1))))) nilS)
    (seqS (setS 4 (opM ixF (opM ixF (varM 0) (cM (.int 0))) (opM ixF (varM 0) (cM (.int 1)))))
    (seqS (subS (opM addF (opM ixF (varM 0) (cM (.int 1))) (cM (.int 1))) (varM 0) (cM (.int 1)))
    (seqS (ifS (orT (tstM (opM ltF (varM 4) (cM (.int 2)))) (tstM (opM eqF (opM modF (bltM intF (consA (varM 4) nilA)) (cM (.int 2))) (cM (.int 1))))) (retS (opM modF (bltM intF (consA (callM f_law_mixed [] (consA (opM ixF (opM ixF (varM 0) (cM (.int 5))) (opM subF (opM ixF (varM 0) (cM (.int 1))) (cM (.int 1)))) (consA (varM 2) nilA))) nilA)) (varM 1))) nilS)
    (seqS (subS (opM divF (varM 4) (cM (.int 2))) (varM 0) (cM (.int 2)))
    (subS (cM (.int 60)) (varM 0) (cM (.int 3)))))))) nilS)
    (seqS (setS 5 (opM modF (bltM intF (consA (opM ixF (varM 0) (cM (.int 2))) nilA)) (varM 1)))
    (seqS (subS (opM divF (opM ixF (varM 0) (cM (.int 2))) (varM 1)) (varM 0) (cM (.int 2)))
    (seqS (subS (opM subF (opM ixF (varM 0) (cM (.int 3))) (cM (.int 1))) (varM 0) (cM (.int 3)))
    (retS (varM 5))))))))
def f_law_draw : MF := defM 2 6 m_law_draw
theorem n_law_draw : ∀ (xs : List MV) (h : MH), (f_law_draw xs h).isSome = true → xs.length = 2 := fun _ _ e => defM_len e
def b1_law_same (r : MF) : MT := (wipT [2] (ifS (notT (truM (callM r [] (consA (opM ixF (varM 0) (varM 2)) (consA (opM ixF (varM 1) (varM 2)) nilA))))) (retS (cM (.bl false))) nilS))
def m_law_same (r : MF) : MT := (seqS (ifS (orT (truM (isiM [.tuple] (varM 1))) (truM (isiM [.list] (varM 1)))) (seqS (ifS (orT (tstM (opM neF (isiM [.tuple] (varM 1)) (isiM [.tuple] (varM 0)))) (tstM (opM neF (isiM [.list] (varM 1)) (isiM [.list] (varM 0))))) (retS (cM (.bl false))) nilS)
    (seqS (ifS (tstM (opM neF (bltM lenF (consA (varM 0) nilA)) (bltM lenF (consA (varM 1) nilA)))) (retS (cM (.bl false))) nilS)
    (seqS (preW [2] (forM (rng1 (consA (bltM lenF (consA (varM 1) nilA)) nilA)) (one 2) (b1_law_same r)))
    (retS (cM (.bl true)))))) nilS)
    (seqS (ifS (tstM (opM isF (varM 1) (cM .non))) (retS (opM isF (varM 0) (cM .non))) nilS)
    (seqS (ifS (truM (isiM [.bool] (varM 1))) (retS (andV (isiM [.bool] (varM 0)) (opM eqF (varM 0) (varM 1)))) nilS)
    (seqS (ifS (truM (isiM [.int] (varM 1))) (retS (andV (isiM [.int] (varM 0)) (andV (notV (isiM [.bool] (varM 0))) (opM eqF (varM 0) (varM 1))))) nilS)
    (retS (andV (isiM [.str] (varM 0)) (opM eqF (varM 0) (varM 1))))))))
def fr_law_same : Nat → MF
  | 0 => fun _ _ => none
  | k + 1 => defM 2 3 (m_law_same (fr_law_same k))
def f_law_same : MF := fr_law_same 6
theorem nr_law_same : ∀ (k : Nat) (xs : List MV) (h : MH), (fr_law_same k xs h).isSome = true → xs.length = 2
  | 0, _, _, e => by cases e
  | _ + 1, _, _, e => defM_len e
theorem n_law_same : ∀ (xs : List MV) (h : MH), (f_law_same xs h).isSome = true → xs.length = 2 := nr_law_same _
def m_law_at_most : MT := (retS (orV (opM eqF (varM 1) (varM 2)) (opM ixF (opM ixF (varM 0) (varM 1)) (varM 2))))
def f_law_at_most : MF := defM 3 3 m_law_at_most
theorem n_law_at_most : ∀ (xs : List MV) (h : MH), (f_law_at_most xs h).isSome = true → xs.length = 3 := fun _ _ e => defM_len e
def b1_law_map : MT := (wipT [6, 7, 9, 12] (seqS (setS 7 (flsM (lcM (rng1 (consA (varM 3) nilA)) [8] (one 8) (truM (opM ixF (opM ixF (opM ixF (varM 1) (cM (.int 1))) (varM 8)) (varM 6))) (opM ixF (varM 5) (varM 8)))))
    (seqS (setS 9 (flsM (lcM (rng1 (consA (varM 4) nilA)) [10] (one 10) (tstM (opM eqF (bltM lenF (consA (flsM (lcM (seqI (varM 7)) [11] (one 11) (notT (truM (callM f_law_at_most [] (consA (opM ixF (varM 2) (cM (.int 1))) (consA (varM 11) (consA (varM 10) nilA)))))) (varM 11))) nilA)) (cM (.int 0)))) (varM 10))))
    (seqS (ifS (tstM (opM eqF (bltM lenF (consA (varM 9) nilA)) (cM (.int 0)))) (seqS (setS 12 (callM f_law_draw [] (consA (varM 0) (consA (varM 4) nilA))))
    (retS (flsM (repL (flsM (lstM (consA (varM 12) nilA))) (varM 3))))) nilS)
    (subS (opM ixF (varM 9) (callM f_law_draw [] (consA (varM 0) (consA (bltM lenF (consA (varM 9) nilA)) nilA)))) (varM 5) (varM 6))))))
def m_law_map : MT := (seqS (setS 3 (bltM lenF (consA (opM ixF (varM 1) (cM (.int 1))) nilA)))
    (seqS (setS 4 (bltM lenF (consA (opM ixF (varM 2) (cM (.int 1))) nilA)))
    (seqS (setS 5 (refM (repL (flsM (lstM (consA (cM (.int 0)) nilA))) (varM 3))))
    (seqS (preW [6, 7, 9, 12] (forM (seqI (opM ixF (varM 1) (cM (.int 2)))) (one 6) b1_law_map))
    (retS (frzM (varM 5)))))))
def f_law_map : MF := cutF (defM 3 13 m_law_map)
theorem n_law_map : ∀ (xs : List MV) (h : MH), (f_law_map xs h).isSome = true → xs.length = 3 := cut_len fun _ _ e => defM_len e
def b1_law_lower : MT := (wipT [7, 8, 10] (seqS (setS 8 (flsM (lcM (rng1 (consA (varM 4) nilA)) [9] (one 9) (truM (opM ixF (opM ixF (opM ixF (varM 1) (cM (.int 1))) (varM 9)) (varM 7))) (opM ixF (varM 6) (varM 9)))))
    (seqS (setS 10 (flsM (lcM (rng1 (consA (bltM lenF (consA (varM 5) nilA)) nilA)) [11] (one 11) (truM (callM f_law_at_most [] (consA (varM 5) (consA (varM 11) (consA (opM ixF (varM 3) (varM 7)) nilA))))) (varM 11))))
    (seqS (setS 10 (flsM (lcM (seqI (varM 10)) [11] (one 11) (tstM (opM eqF (bltM lenF (consA (flsM (lcM (seqI (varM 8)) [12] (one 12) (notT (truM (callM f_law_at_most [] (consA (varM 5) (consA (varM 12) (consA (varM 11) nilA)))))) (varM 12))) nilA)) (cM (.int 0)))) (varM 11))))
    (subS (opM ixF (varM 10) (callM f_law_draw [] (consA (varM 0) (consA (bltM lenF (consA (varM 10) nilA)) nilA)))) (varM 6) (varM 7))))))
def m_law_lower : MT := (seqS (setS 4 (bltM lenF (consA (opM ixF (varM 1) (cM (.int 1))) nilA)))
    (seqS (setS 5 (opM ixF (varM 2) (cM (.int 1))))
    (seqS (setS 6 (refM (repL (flsM (lstM (consA (cM (.int 0)) nilA))) (varM 4))))
    (seqS (preW [7, 8, 10] (forM (seqI (opM ixF (varM 1) (cM (.int 2)))) (one 7) b1_law_lower))
    (retS (frzM (varM 6)))))))
def f_law_lower : MF := cutF (defM 4 13 m_law_lower)
theorem n_law_lower : ∀ (xs : List MV) (h : MH), (f_law_lower xs h).isSome = true → xs.length = 4 := cut_len fun _ _ e => defM_len e
def b1_law_higher : MT := (wipT [7, 8, 10] (seqS (setS 8 (flsM (lcM (rng1 (consA (varM 4) nilA)) [9] (one 9) (truM (opM ixF (opM ixF (opM ixF (varM 1) (cM (.int 1))) (varM 7)) (varM 9))) (opM ixF (varM 6) (varM 9)))))
    (seqS (setS 10 (flsM (lcM (rng1 (consA (bltM lenF (consA (varM 5) nilA)) nilA)) [11] (one 11) (truM (callM f_law_at_most [] (consA (varM 5) (consA (opM ixF (varM 3) (varM 7)) (consA (varM 11) nilA))))) (varM 11))))
    (seqS (setS 10 (flsM (lcM (seqI (varM 10)) [11] (one 11) (tstM (opM eqF (bltM lenF (consA (flsM (lcM (seqI (varM 8)) [12] (one 12) (notT (truM (callM f_law_at_most [] (consA (varM 5) (consA (varM 11) (consA (varM 12) nilA)))))) (varM 12))) nilA)) (cM (.int 0)))) (varM 11))))
    (subS (opM ixF (varM 10) (callM f_law_draw [] (consA (varM 0) (consA (bltM lenF (consA (varM 10) nilA)) nilA)))) (varM 6) (varM 7))))))
def m_law_higher : MT := (seqS (setS 4 (bltM lenF (consA (opM ixF (varM 1) (cM (.int 1))) nilA)))
    (seqS (setS 5 (opM ixF (varM 2) (cM (.int 1))))
    (seqS (setS 6 (refM (repL (flsM (lstM (consA (cM (.int 0)) nilA))) (varM 4))))
    (seqS (preW [7, 8, 10] (forM (seqI (flsM (rvsL (opM ixF (varM 1) (cM (.int 2)))))) (one 7) b1_law_higher))
    (retS (frzM (varM 6)))))))
def f_law_higher : MF := cutF (defM 4 13 m_law_higher)
theorem n_law_higher : ∀ (xs : List MV) (h : MH), (f_law_higher xs h).isSome = true → xs.length = 4 := cut_len fun _ _ e => defM_len e
def m_law_lows : MT := (seqS (ifS (tstM (opM eqF (bltM lenF (consA (varM 1) nilA)) (cM (.int 0)))) (retS (flsM (lstM nilA))) nilS)
    (seqS (setS 3 (opM ixF (varM 1) (callM f_law_draw [] (consA (varM 0) (consA (bltM lenF (consA (varM 1) nilA)) nilA)))))
    (seqS (ifS (tstM (opM ltF (varM 2) (cM (.int 2)))) (retS (flsM (repL (flsM (lstM (consA (varM 3) nilA))) (bltM intF (consA (opM geF (callM f_law_draw [] (consA (varM 0) (consA (cM (.int 6)) nilA))) (opM ixF (flsM (lstM (consA (cM (.int 4)) (consA (cM (.int 1)) nilA)))) (varM 2))) nilA))))) nilS)
    (seqS (ifS (tstM (opM eqF (varM 2) (cM (.int 2)))) (retS (flsM (lcM (seqI (sliT (varM 1) noO (someO (cM (.int 3))))) [4] (one 4) (tstM (opM eqF (callM f_law_draw [] (consA (varM 0) (consA (cM (.int 2)) nilA))) (cM (.int 0)))) (varM 4)))) nilS)
    (seqS (ifS (tstM (opM eqF (varM 2) (cM (.int 3)))) (retS (sliT (varM 1) (someO (unM negF (cM (.int 1)))) noO)) nilS)
    (retS (flsM (catL (flsM (lstM (consA (varM 3) nilA))) (flsM (lcM (rng1 (consA (callM f_law_draw [] (consA (varM 0) (consA (opM subF (varM 2) (cM (.int 2))) nilA))) nilA)) [5] (one 5) yesT (opM ixF (varM 1) (callM f_law_draw [] (consA (varM 0) (consA (bltM lenF (consA (varM 1) nilA)) nilA))))))))))))))
def f_law_lows : MF := defM 3 6 m_law_lows
theorem n_law_lows : ∀ (xs : List MV) (h : MH), (f_law_lows xs h).isSome = true → xs.length = 3 := fun _ _ e => defM_len e
def b1_law_order : MT := (wipT [4] (dropS (mthM insF (varM 3) (consA (callM f_law_draw [] (consA (varM 0) (consA (opM addF (varM 4) (cM (.int 1))) nilA))) (consA (varM 4) nilA)))))
def b2_law_order : MT := (wipT [7, 10] (ifS (orT (tstM (opM eqF (varM 7) (varM 9))) (truM (opM ixF (opM ixF (varM 6) (varM 7)) (varM 9)))) (seqS (setS 10 (opM ixF (varM 6) (varM 7)))
    (subS (cM (.bl true)) (varM 10) (varM 8))) nilS))
def b3_law_order : MT := (wipT [7, 9, 10] (preW [7, 10] (forM (rng1 (consA (varM 1) nilA)) (one 7) b2_law_order)))
def b4_law_order : MT := (wipT [4, 7, 8, 9, 10] (seqS (setS 8 (opM ixF (varM 3) (varM 4)))
    (preW [7, 9, 10] (forM (seqI (callM f_law_lows [] (consA (varM 0) (consA (sliT (varM 3) noO (someO (varM 4))) (consA (varM 5) nilA))))) (one 9) b3_law_order))))
def b5_law_order : MT := (wipT [7] (setS 11 (flsM (catL (varM 11) (flsM (lcM (rng1 (consA (varM 1) nilA)) [8] (one 8) (truM (opM ixF (opM ixF (varM 6) (varM 7)) (varM 8))) (tupM (consA (varM 7) (consA (varM 8) nilA)))))))))
def m_law_order : MT := (seqS (setS 3 (refM (lstM nilA)))
    (seqS (preW [4] (forM (rng1 (consA (varM 1) nilA)) (one 4) b1_law_order))
    (seqS (setS 5 (opM ixF (varM 2) (callM f_law_draw [] (consA (varM 0) (consA (bltM lenF (consA (varM 2) nilA)) nilA)))))
    (seqS (setS 6 (refM (lcM (rng1 (consA (varM 1) nilA)) [7] (one 7) yesT (refM (repL (flsM (lstM (consA (cM (.bl false)) nilA))) (varM 1))))))
    (seqS (preW [4, 7, 8, 9, 10] (forM (rng1 (consA (varM 1) nilA)) (one 4) b4_law_order))
    (seqS (setS 11 (flsM (lstM nilA)))
    (seqS (preW [7] (forM (rng1 (consA (varM 1) nilA)) (one 7) b5_law_order))
    (seqS (setS 12 (flsM (lcM (rng1 (consA (varM 1) nilA)) [7] (one 7) yesT (flsM (lcM (rng1 (consA (varM 1) nilA)) [8] (one 8) (orT (truM (opM ixF (opM ixF (varM 6) (varM 7)) (varM 8))) (truM (opM ixF (opM ixF (varM 6) (varM 8)) (varM 7)))) (varM 8))))))
    (retS (tupM (consA (tupM (consA (varM 1) (consA (bltM tupF (consA (varM 11) nilA)) nilA))) (consA (frzM (varM 6)) (consA (frzM (varM 3)) (consA (varM 12) nilA))))))))))))))
def f_law_order : MF := cutF (defM 3 13 m_law_order)
theorem n_law_order : ∀ (xs : List MV) (h : MH), (f_law_order xs h).isSome = true → xs.length = 3 := cut_len fun _ _ e => defM_len e
def m_law_orders : MT := (seqS (setS 1 (callM f_law_draw [] (consA (varM 0) (consA (cM (.int 20)) nilA))))
    (seqS (setS 2 (opM addF (cM (.int 1)) (callM f_law_draw [] (consA (varM 0) (consA (cM (.int 8)) nilA)))))
    (seqS (setS 3 (opM addF (cM (.int 1)) (callM f_law_draw [] (consA (varM 0) (consA (cM (.int 8)) nilA)))))
    (seqS (ifS (tstM (opM eqF (varM 1) (cM (.int 0)))) (asgS (unpL [2, 3]) (flsM (lstM (consA (opM addF (cM (.int 9)) (callM f_law_draw [] (consA (varM 0) (consA (cM (.int 4)) nilA)))) (consA (opM addF (cM (.int 1)) (callM f_law_draw [] (consA (varM 0) (consA (cM (.int 5)) nilA)))) nilA))))) nilS)
    (seqS (ifS (tstM (opM eqF (varM 1) (cM (.int 1)))) (asgS (unpL [2, 3]) (flsM (lstM (consA (opM addF (cM (.int 1)) (callM f_law_draw [] (consA (varM 0) (consA (cM (.int 5)) nilA)))) (consA (opM addF (cM (.int 9)) (callM f_law_draw [] (consA (varM 0) (consA (cM (.int 4)) nilA)))) nilA))))) nilS)
    (seqS (ifS (tstM (opM eqF (varM 1) (cM (.int 2)))) (asgS (unpL [2, 3]) (flsM (lstM (consA (cM (.int 0)) (consA (callM f_law_draw [] (consA (varM 0) (consA (cM (.int 6)) nilA))) nilA))))) nilS)
    (retS (tupM (consA (callM f_law_order [] (consA (varM 0) (consA (varM 2) (consA (tupM (consA (cM (.int 0)) (consA (cM (.int 1)) (consA (cM (.int 2)) (consA (cM (.int 3)) (consA (cM (.int 4)) (consA (cM (.int 5)) nilA))))))) nilA)))) (consA (callM f_law_order [] (consA (varM 0) (consA (varM 3) (consA (tupM (consA (cM (.int 0)) (consA (cM (.int 1)) (consA (cM (.int 2)) (consA (cM (.int 3)) (consA (cM (.int 4)) (consA (cM (.int 5)) nilA))))))) nilA)))) nilA))))))))))
def f_law_orders : MF := defM 1 4 m_law_orders
theorem n_law_orders : ∀ (xs : List MV) (h : MH), (f_law_orders xs h).isSome = true → xs.length = 1 := fun _ _ e => defM_len e
def m_lowest_in : MT := (seqS (setS 1 (opM andF (varM 0) (unM negF (varM 0))))
    (retS (opM subF (bitsM (varM 1)) (cM (.int 1)))))
def f_lowest_in : MF := defM 1 2 m_lowest_in
theorem n_lowest_in : ∀ (xs : List MV) (h : MH), (f_lowest_in xs h).isSome = true → xs.length = 1 := fun _ _ e => defM_len e
def b1_high_masks : MT := (wipT [4, 5] (subS (opM orF (opM ixF (varM 3) (varM 4)) (opM shlF (cM (.int 1)) (varM 5))) (varM 3) (varM 4)))
def m_high_masks : MT := (seqS (asgS (unp [1, 2]) (varM 0))
    (seqS (setS 3 (refM (repL (flsM (lstM (consA (cM (.int 0)) nilA))) (varM 1))))
    (seqS (preW [4, 5] (forM (seqI (varM 2)) (unp [4, 5]) b1_high_masks))
    (retS (bltM tupF (consA (varM 3) nilA))))))
def f_high_masks : MF := cutF (defM 1 6 m_high_masks)
theorem n_high_masks : ∀ (xs : List MV) (h : MH), (f_high_masks xs h).isSome = true → xs.length = 1 := cut_len fun _ _ e => defM_len e
def b1_low_masks : MT := (wipT [4, 5] (subS (opM orF (opM ixF (varM 3) (varM 5)) (opM shlF (cM (.int 1)) (varM 4))) (varM 3) (varM 5)))
def m_low_masks : MT := (seqS (asgS (unp [1, 2]) (varM 0))
    (seqS (setS 3 (refM (repL (flsM (lstM (consA (cM (.int 0)) nilA))) (varM 1))))
    (seqS (preW [4, 5] (forM (seqI (varM 2)) (unp [4, 5]) b1_low_masks))
    (retS (bltM tupF (consA (varM 3) nilA))))))
def f_low_masks : MF := cutF (defM 1 6 m_low_masks)
theorem n_low_masks : ∀ (xs : List MV) (h : MH), (f_low_masks xs h).isSome = true → xs.length = 1 := cut_len fun _ _ e => defM_len e
def m_at_most_masks : MT := (retS (bltM tupF (consA (flsM (lcM (enmI (consA (callM f_low_masks [] (consA (varM 0) nilA)) nilA)) [1, 2] (unp [1, 2]) yesT (opM orF (varM 2) (opM shlF (cM (.int 1)) (varM 1))))) nilA)))
def f_at_most_masks : MF := defM 1 3 m_at_most_masks
theorem n_at_most_masks : ∀ (xs : List MV) (h : MH), (f_at_most_masks xs h).isSome = true → xs.length = 1 := fun _ _ e => defM_len e
def m_covers : MT := (seqS (setS 1 (callM f_high_masks [] (consA (varM 0) nilA)))
    (seqS (setS 2 (callM f_low_masks [] (consA (varM 0) nilA)))
    (retS (bltM tupF (consA (flsM (lcM (seqI (opM ixF (varM 0) (cM (.int 1)))) [3, 4] (unp [3, 4]) (tstM (opM eqF (opM andF (opM ixF (varM 1) (varM 3)) (opM ixF (varM 2) (varM 4))) (cM (.int 0)))) (tupM (consA (varM 3) (consA (varM 4) nilA))))) nilA)))))
def f_covers : MF := defM 1 5 m_covers
theorem n_covers : ∀ (xs : List MV) (h : MH), (f_covers xs h).isSome = true → xs.length = 1 := fun _ _ e => defM_len e
def b1_is_below : MT := (wipT [6] (seqS (setS 6 (opM divF (opM addF (varM 4) (varM 5)) (cM (.int 2))))
    (ifS (tstM (opM ltAF (opM ixF (varM 3) (varM 6)) (tupM (consA (varM 1) (consA (varM 2) nilA))))) (setS 4 (opM addF (varM 6) (cM (.int 1)))) (setS 5 (varM 6)))))
def m_is_below : MT := (seqS (setS 3 (opM ixF (varM 0) (cM (.int 1))))
    (seqS (setS 4 (cM (.int 0)))
    (seqS (setS 5 (bltM lenF (consA (varM 3) nilA)))
    (seqS (preW [6] (whlG (tstM (opM ltF (varM 4) (varM 5))) b1_is_below 5000))
    (retS (andV (opM ltF (varM 4) (bltM lenF (consA (varM 3) nilA))) (opM eqF (opM ixF (varM 3) (varM 4)) (tupM (consA (varM 1) (consA (varM 2) nilA))))))))))
def f_is_below : MF := defM 3 7 m_is_below
theorem n_is_below : ∀ (xs : List MV) (h : MH), (f_is_below xs h).isSome = true → xs.length = 3 := fun _ _ e => defM_len e
def b1_at_most : MT := (wipT [3, 4] (ifS (andT (tstM (opM neF (varM 4) (opM ixF (varM 2) (varM 3)))) (notT (truM (callM f_is_below [] (consA (varM 0) (consA (varM 4) (consA (opM ixF (varM 2) (varM 3)) nilA))))))) (retS (cM (.bl false))) nilS))
def m_at_most : MT := (seqS (preW [3, 4] (forM (enmI (consA (varM 1) nilA)) (unp [3, 4]) b1_at_most))
    (retS (cM (.bl true))))
def f_at_most : MF := defM 3 5 m_at_most
theorem n_at_most : ∀ (xs : List MV) (h : MH), (f_at_most xs h).isSome = true → xs.length = 3 := fun _ _ e => defM_len e
def b1_points_in : MT := (wipT [2] (seqS (setS 2 (opM andF (varM 0) (unM negF (varM 0))))
    (seqS (dropS (mthM appF (varM 1) (consA (opM subF (bitsM (varM 2)) (cM (.int 1))) nilA)))
    (setS 0 (opM subF (varM 0) (varM 2))))))
def m_points_in : MT := (seqS (setS 1 (refM (lstM nilA)))
    (seqS (preW [2] (whlG (truM (varM 0)) b1_points_in 70))
    (retS (bltM tupF (consA (varM 1) nilA)))))
def f_points_in : MF := cutF (defM 1 3 m_points_in)
theorem n_points_in : ∀ (xs : List MV) (h : MH), (f_points_in xs h).isSome = true → xs.length = 1 := cut_len fun _ _ e => defM_len e
def b1_top_of : MT := (wipT [2] (ifS (tstM (opM eqF (opM andF (opM ixF (varM 1) (varM 2)) (varM 0)) (cM (.int 0)))) (retS (varM 2)) nilS))
def m_top_of : MT := (seqS (preW [2] (forM (seqI (callM f_points_in [] (consA (varM 0) nilA))) (one 2) b1_top_of))
    (retS (cM .non)))
def f_top_of : MF := defM 2 3 m_top_of
theorem n_top_of : ∀ (xs : List MV) (h : MH), (f_top_of xs h).isSome = true → xs.length = 2 := fun _ _ e => defM_len e
def b1_steps_up : MT := (wipT [9, 10] (ifS (tstM (opM neF (varM 10) (opM ixF (varM 3) (varM 9)))) (setS 8 (opM orF (varM 8) (opM shlF (cM (.int 1)) (varM 9)))) nilS))
def b2_steps_up : MT := (wipT [9] (seqS (setS 9 (callM f_top_of [] (consA (varM 8) (consA (varM 4) nilA))))
    (seqS (subS (callM f_lowest_in [] (consA (opM andF (opM ixF (varM 5) (opM ixF (varM 7) (varM 9))) (opM ixF (varM 6) (opM ixF (varM 3) (varM 9)))) nilA)) (varM 7) (varM 9))
    (seqS (dropS (mthM appF (varM 11) (consA (tupM (consA (varM 9) (consA (opM ixF (varM 7) (varM 9)) nilA))) nilA)))
    (ifS (tstM (opM eqF (opM ixF (varM 7) (varM 9)) (opM ixF (varM 3) (varM 9)))) (setS 8 (opM subF (varM 8) (opM shlF (cM (.int 1)) (varM 9)))) nilS)))))
def m_steps_up : MT := (seqS (ifS (notT (truM (callM f_at_most [] (consA (varM 1) (consA (varM 2) (consA (varM 3) nilA)))))) (raiseS "NotAbove" [] nilA) nilS)
    (seqS (setS 4 (callM f_high_masks [] (consA (varM 0) nilA)))
    (seqS (setS 5 (callM f_high_masks [] (consA (tupM (consA (opM ixF (varM 1) (cM (.int 0))) (consA (callM f_covers [] (consA (varM 1) nilA)) nilA))) nilA)))
    (seqS (setS 6 (callM f_at_most_masks [] (consA (varM 1) nilA)))
    (seqS (setS 7 (refM (bltL lstF (consA (varM 2) nilA))))
    (seqS (setS 8 (cM (.int 0)))
    (seqS (preW [9, 10] (forM (enmI (consA (varM 2) nilA)) (unp [9, 10]) b1_steps_up))
    (seqS (setS 11 (refM (lstM nilA)))
    (seqS (preW [9] (whlG (truM (varM 8)) b2_steps_up 5000))
    (retS (bltM tupF (consA (varM 11) nilA))))))))))))
def f_steps_up : MF := cutF (defM 4 12 m_steps_up)
theorem n_steps_up : ∀ (xs : List MV) (h : MH), (f_steps_up xs h).isSome = true → xs.length = 4 := cut_len fun _ _ e => defM_len e
def m_law_asked : MT := (tryS (seqS (ifS (truM (varM 4)) (retS (tupM (consA (cM (.str "told")) (consA (callKX f_steps_up 0 4 [3, 2, 1, 0] [] nilA (consA (bltM tupF (consA (varM 3) nilA)) (consA (bltM tupF (consA (varM 2) nilA)) (consA (opM ixF (varM 1) (cM (.int 0))) (consA (opM ixF (varM 0) (cM (.int 0))) nilA))))) nilA)))) nilS)
    (retS (tupM (consA (cM (.str "told")) (consA (callX f_steps_up [] (consA (opM ixF (varM 0) (cM (.int 0))) (consA (opM ixF (varM 1) (cM (.int 0))) (consA (bltM tupF (consA (varM 2) nilA)) (consA (bltM tupF (consA (varM 3) nilA)) nilA))))) nilA))))) [("NotAbove", true)] 7 6 (fun nm a d => (seqS (setS 5 (orV (isE 6 a d (List.lookup nm ([("NotAbove", false)] : List (Str × Bool)))) (orV (isE 6 a d (List.lookup nm ([("NotAbove", false)] : List (Str × Bool)))) (isE 6 a d (List.lookup nm ([("NotAbove", false)] : List (Str × Bool)))))))
    (retS (flsM (lstM (consA (cM (.str "above")) (consA (andV (isE 6 a d (List.lookup nm ([("NotAbove", true)] : List (Str × Bool)))) (andV (isE 6 a d (List.lookup nm ([("NotAbove", true)] : List (Str × Bool)))) (notV (varM 5)))) nilA))))))))
def f_law_asked : MF := cutF (defM 5 7 m_law_asked)
theorem n_law_asked : ∀ (xs : List MV) (h : MH), (f_law_asked xs h).isSome = true → xs.length = 5 := cut_len fun _ _ e => defM_len e
def m_law_covers : MT := (retS (andV (opM ixF (opM ixF (varM 0) (varM 1)) (varM 2)) (opM eqF (bltM lenF (consA (flsM (lcM (rng1 (consA (bltM lenF (consA (varM 0) nilA)) nilA)) [3] (one 3) (andT (truM (opM ixF (opM ixF (varM 0) (varM 1)) (varM 3))) (truM (opM ixF (opM ixF (varM 0) (varM 3)) (varM 2)))) (varM 3))) nilA)) (cM (.int 0)))))
def f_law_covers : MF := defM 3 4 m_law_covers
theorem n_law_covers : ∀ (xs : List MV) (h : MH), (f_law_covers xs h).isSome = true → xs.length = 3 := fun _ _ e => defM_len e
def b1_law_next : MT := (wipT [3] (ifS (andT (truM (callM f_law_at_most [] (consA (varM 0) (consA (varM 3) (consA (varM 2) nilA))))) (truM (callM f_law_covers [] (consA (varM 0) (consA (varM 1) (consA (varM 3) nilA)))))) (retS (varM 3)) nilS))
def m_law_next : MT := (seqS (preW [3] (forM (rng1 (consA (bltM lenF (consA (varM 0) nilA)) nilA)) (one 3) b1_law_next))
    (retS (varM 2)))
def f_law_next : MF := defM 3 4 m_law_next
theorem n_law_next : ∀ (xs : List MV) (h : MH), (f_law_next xs h).isSome = true → xs.length = 3 := fun _ _ e => defM_len e
def b1_law_up : MT := (wipT [12] (ifS (tstM (opM neF (varM 11) (opM ixF (varM 3) (varM 6)))) (seqS (setS 11 (callM f_law_next [] (consA (opM ixF (varM 1) (cM (.int 1))) (consA (varM 11) (consA (opM ixF (varM 3) (varM 6)) nilA)))))
    (dropS (mthM appF (varM 4) (consA (tupM (consA (varM 6) (consA (varM 11) nilA))) nilA)))) nilS))
def b2_law_up : MT := (wipT [6, 7, 8, 11, 12] (seqS (setS 8 (flsM (lcM (seqI (varM 5)) [9] (one 9) (tstM (opM eqF (bltM lenF (consA (flsM (lcM (seqI (varM 5)) [10] (one 10) (truM (opM ixF (opM ixF (opM ixF (varM 0) (cM (.int 1))) (varM 9)) (varM 10))) (varM 10))) nilA)) (cM (.int 0)))) (varM 9))))
    (seqS (setS 6 (opM ixF (varM 8) (cM (.int 0))))
    (seqS (setS 11 (opM ixF (varM 2) (varM 6)))
    (seqS (preW [12] (forM (rng1 (consA (bltM lenF (consA (opM ixF (varM 1) (cM (.int 1))) nilA)) nilA)) (one 12) b1_law_up))
    (dropS (mthM remF (varM 5) (consA (varM 6) nilA))))))))
def m_law_up : MT := (seqS (setS 4 (refM (lstM nilA)))
    (seqS (setS 5 (refM (lcM (rng1 (consA (bltM lenF (consA (varM 2) nilA)) nilA)) [6] (one 6) (tstM (opM neF (opM ixF (varM 2) (varM 6)) (opM ixF (varM 3) (varM 6)))) (varM 6))))
    (seqS (preW [6, 7, 8, 11, 12] (forM (rng1 (consA (bltM lenF (consA (varM 5) nilA)) nilA)) (one 7) b2_law_up))
    (retS (frzM (varM 4))))))
def f_law_up : MF := cutF (defM 4 13 m_law_up)
theorem n_law_up : ∀ (xs : List MV) (h : MH), (f_law_up xs h).isSome = true → xs.length = 4 := cut_len fun _ _ e => defM_len e
def m_law_is_at_most : MT := (retS (opM eqF (bltM lenF (consA (flsM (lcM (rng1 (consA (bltM lenF (consA (varM 1) nilA)) nilA)) [3] (one 3) (notT (truM (callM f_law_at_most [] (consA (opM ixF (varM 0) (cM (.int 1))) (consA (opM ixF (varM 1) (varM 3)) (consA (opM ixF (varM 2) (varM 3)) nilA)))))) (varM 3))) nilA)) (cM (.int 0))))
def f_law_is_at_most : MF := defM 3 4 m_law_is_at_most
theorem n_law_is_at_most : ∀ (xs : List MV) (h : MH), (f_law_is_at_most xs h).isSome = true → xs.length = 3 := fun _ _ e => defM_len e
def m_law_due : MT := (seqS (ifS (notT (truM (callM f_law_is_at_most [] (consA (varM 1) (consA (varM 2) (consA (varM 3) nilA)))))) (retS (flsM (lstM (consA (cM (.str "above")) (consA (cM (.bl true)) nilA))))) nilS)
    (retS (tupM (consA (cM (.str "told")) (consA (bltM tupF (consA (callM f_law_up [] (consA (varM 0) (consA (varM 1) (consA (varM 2) (consA (varM 3) nilA))))) nilA)) nilA)))))
def f_law_due : MF := defM 4 4 m_law_due
theorem n_law_due : ∀ (xs : List MV) (h : MH), (f_law_due xs h).isSome = true → xs.length = 4 := fun _ _ e => defM_len e
def b1_law : MT := (wipT [9, 10] (seqS (ifS (notT (truM (callM f_law_same [] (consA (callM f_law_asked [] (consA (varM 3) (consA (varM 4) (consA (varM 9) (consA (varM 10) (consA (varM 8) nilA)))))) (consA (callM f_law_due [] (consA (varM 3) (consA (varM 4) (consA (varM 9) (consA (varM 10) nilA))))) nilA))))) (retS (cM (.bl false))) nilS)
    (setS 8 (notV (varM 8)))))
def b2_law : MT := (wipT [2, 3, 4, 5, 6, 7, 8, 9, 10] (seqS (asgS (unp [3, 4]) (callM f_law_orders [] (consA (varM 1) nilA)))
    (seqS (setS 5 (callM f_law_map [] (consA (varM 1) (consA (varM 3) (consA (varM 4) nilA)))))
    (seqS (setS 6 (callM f_law_lower [] (consA (varM 1) (consA (varM 3) (consA (varM 4) (consA (varM 5) nilA))))))
    (seqS (ifS (tstM (opM eqF (callM f_law_draw [] (consA (varM 1) (consA (cM (.int 3)) nilA))) (cM (.int 0)))) (seqS (setS 6 (varM 5))
    (setS 5 (callM f_law_higher [] (consA (varM 1) (consA (varM 3) (consA (varM 4) (consA (varM 6) nilA))))))) nilS)
    (seqS (setS 7 (callM f_law_map [] (consA (varM 1) (consA (varM 3) (consA (varM 4) nilA)))))
    (seqS (setS 8 (opM eqF (callM f_law_draw [] (consA (varM 1) (consA (cM (.int 2)) nilA))) (cM (.int 1))))
    (preW [9, 10] (forM (seqI (flsM (lstM (consA (tupM (consA (varM 6) (consA (varM 5) nilA))) (consA (tupM (consA (varM 5) (consA (varM 6) nilA))) (consA (tupM (consA (varM 5) (consA (varM 7) nilA))) (consA (tupM (consA (varM 7) (consA (varM 6) nilA))) (consA (tupM (consA (varM 5) (consA (varM 5) nilA))) (consA (tupM (consA (varM 6) (consA (varM 5) nilA))) nilA))))))))) (unp [9, 10]) b1_law)))))))))
def m_law : MT := (seqS (setS 1 (callM f_law_start [] (consA (varM 0) nilA)))
    (seqS (preW [2, 3, 4, 5, 6, 7, 8, 9, 10] (forM (rng1 (consA (cM (.int 2)) nilA)) (one 2) b2_law))
    (retS (cM (.bl true)))))
def f_law : MF := defM 1 11 m_law
theorem n_law : ∀ (xs : List MV) (h : MH), (f_law xs h).isSome = true → xs.length = 1 := fun _ _ e => defM_len e
end
end Mi.k14
set_option maxHeartbeats 4000000
namespace Mi.k14
open PySem L2
open Mi.k13 (St Ow owV Ri mkL mkV cov mem In)
/-! what is as in k13 -/
theorem e_draw : f_law_draw = k13.f_law_draw := rfl
theorem e_start : f_law_start = k13.f_law_start := rfl
theorem e_order : f_law_order = k13.f_law_order := rfl
theorem e_map : f_law_map = k13.f_law_map := rfl
theorem e_same : f_law_same = k13.f_law_same := rfl
theorem e_at_most : f_law_at_most = k13.f_law_at_most := rfl
theorem e_covers : f_law_covers = k13.f_law_covers := rfl
theorem e_high : f_high_masks = k13.f_high_masks := rfl
theorem e_low : f_low_masks = k13.f_low_masks := rfl
theorem e_pcovers : f_covers = k13.f_covers := rfl
theorem e_points : f_points_in = k13.f_points_in := rfl
theorem draw_of {S os : MH} {es : List Nat} (hS : St S) (h0 : 0 < es.length) (h1 : es.length ≤ 64) : ∃ (d : Nat) (x : Nat) (S' : MH), f_law_draw [.ref 0, .int (es.length : Int)] (S ++ os) = ok (nV d) (S' ++ os) ∧ es[d]? = some x ∧ x ∈ es ∧ St S' := k13.draw_of hS h0 h1
theorem leB_refl {g : Nat → Nat → Bool} {a : Nat} : leB g a a = true := by
  unfold leB
  rw [beq_self_eq_true]
  rfl
theorem leB_tr {n : Nat} {g : Nat → Nat → Bool} (o : SOrd n g) {a b c : Nat} (h1 : leB g a b = true) (h2 : leB g b c = true) : leB g a c = true := by
  unfold leB at *
  rw [Bool.or_eq_true, beq_iff_eq] at *
  rcases h1 with h1 | h1
  · rw [h1]
    exact h2
  · rcases h2 with h2 | h2
    · rw [← h2]
      exact .inr h1
    · exact .inr (o.tr _ _ _ h1 h2)
theorem at_most_ {m a b : Nat} {g : Nat → Nat → Bool} {h : MH} (ha : a < m) (hb : b < m) : f_law_at_most [matV m m g, .int (a : Int), .int (b : Int)] h = ok (.bl (leB g a b)) h := k13.at_most_ ha hb
/-- pointwise at most -/
def Le (n : Nat) (g : Nat → Nat → Bool) (r q : List Nat) : Prop := ∀ x v w : Nat, x < n → r[x]? = some v → q[x]? = some w → leB g v w = true
/-- one point of _law_lower, _law_higher: what fits -/
theorem lc_fit {m : Nat} {g : Nat → Nat → Bool} {s0 : MS} {h : MH} (c : Nat → Bool) {fv : List Nat} (hfv : ∀ v ∈ fv, v < m) (hl : fv.length ≤ lim) {cd : MM Bool} (hc : ∀ v ∈ fv, cd (s0.set 11 (some (nV v))) h = ok (c v) h) (hs : ∀ v, slot (s0.set 11 (some (nV v))) 11 = some (nV v)) :
    lcS (one 11) cd (varM 11) s0 (fv.map nV) [] h = ok ((fv.filter c).map nV) h := lc_p (i := 11) (f := nV) (cd := cd) (el := varM 11) (s0 := s0) (h := h) c nV (xs := fv) hl fun v hv => ⟨hc v hv, fun _ => by
  unfold varM
  rw [hs]
  rfl⟩
theorem eq0 {zs : List Nat} : eqB (.int (zs.length : Int)) (.int 0) = some zs.isEmpty := by
  cases zs with
  | nil => rfl
  | cons u us =>
    simp [eqB]
    omega
theorem all_empty {α : Type} {c : α → Bool} {xs : List α} : (xs.filter fun a => !c a).isEmpty = xs.all c := by
  rw [Bool.eq_iff_iff, List.all_eq_true, List.isEmpty_iff, List.filter_eq_nil_iff]
  simp
def sW (n m : Nat) (f g : Nat → Nat → Bool) (L L2 r : List Nat) (p : Nat) : MS := [some (.ref 0), some (owV n f L), some (owV m g L2), some (.fls (r.map nV)), some (nV n), some (matV m m g), some (.ref p), none, none, none, none, none, none]
/-- row[x] drawn among what is at most r[x] and at least the lows -/
theorem low_turn {S os : MH} {n m p x : Nat} {f g : Nat → Nat → Bool} {L L2 r q : List Nat} (hS : St S) (o1 : Ow n f L) (o2 : Ow m g L2) (hr : Mp n m r) (hq : q.length = n) (hp : p = 1 + os.length) (hx : x < n) (hlow : ∀ y, y < n → f y x = true → ∃ v, q[y]? = some v ∧ v < m ∧ leB g v (r.getD x 0) = true) :
    ∃ v S', turnM (one 7) b1_law_lower (nV x) (sW n m f g L L2 r p) (S ++ (os ++ [.lst (q.map nV)])) = some (.nx (sW n m f g L L2 r p) (S' ++ (os ++ [.lst ((q.set x v).map nV)]))) ∧ v < m ∧ leB g v (r.getD x 0) = true ∧ (∀ y w, y < n → f y x = true → q[y]? = some w → leB g w v = true) ∧ St S' := by
  have hn := o1.le
  have hm := o2.le
  have q1 : (n : Int) ≤ 1000000 := by omega
  have q2 : (-1000000 : Int) ≤ n := by omega
  have q3 : (m : Int) ≤ 1000000 := by omega
  have q4 : (-1000000 : Int) ≤ m := by omega
  have l1 : n ≤ lim := by unfold lim; omega
  have l2 : m ≤ lim := by unfold lim; omega
  obtain ⟨u, hu, hum⟩ := hr.at hx
  have eu : r.getD x 0 = u := by rw [List.getD_eq_getElem?_getD, hu]; rfl
  rw [eu] at hlow ⊢
  have a1 := at1 (t := []) (o := .lst (q.map nV)) (S := S) (os := os) hS.len hp
  have t1 : ∀ y, y < n → (tb n fun x => MV.fls (tb n fun y => MV.bl (f x y)))[y]? = some (.fls (tb n fun z => .bl (f y z))) := fun y hy => tb_get hy
  have t2 : ∀ y, (tb n fun z => MV.bl (f y z))[x]? = some (.bl (f y x)) := fun y => tb_get hx
  have lm : (tb m fun x => MV.fls (tb m fun y => MV.bl (g x y))).length = m := tb_len
  have el := lc_p (i := 9) (f := nV) (cd := truM (opM ixF (opM ixF (opM ixF (varM 1) (cM (.int 1))) (varM 9)) (varM 7))) (el := opM ixF (varM 6) (varM 9)) (s0 := (sW n m f g L L2 r p).set 7 (some (nV x)))
    (h := S ++ (os ++ [.lst (q.map nV)])) (fun y => f y x) (fun y => nV (q.getD y 0)) (xs := List.range n) (by simpa using l1) fun y hy => by
      have hy' := List.mem_range.mp hy
      refine ⟨?_, fun c => ?_⟩
      · simp [sW, owV, atI_1, matV, atI_n, t1 y hy', t2]
      · obtain ⟨v, hv, _⟩ := hlow y hy' c
        simp [sW, a1, atI_n, hv]
  obtain ⟨lv, hlv⟩ : ∃ lv : List Nat, lv = ((List.range n).filter fun y => f y x).map fun y => q.getD y 0 := ⟨_, rfl⟩
  have elv : ((List.range n).filter fun y => f y x).map (fun y => nV (q.getD y 0)) = lv.map nV := by
    rw [hlv, List.map_map]
    rfl
  have lvm : ∀ v, v ∈ lv ↔ ∃ y, y < n ∧ f y x = true ∧ q.getD y 0 = v := fun v => by
    rw [hlv, List.mem_map]
    simp [List.mem_filter, List.mem_range, and_assoc]
  have lvlt : ∀ v ∈ lv, v < m ∧ leB g v u = true := fun v hv => by
    obtain ⟨y, hy, hf, e⟩ := (lvm v).mp hv
    obtain ⟨w, hw, hwm, hwu⟩ := hlow y hy hf
    rw [List.getD_eq_getElem?_getD, hw] at e
    have e' : w = v := e
    rw [← e']
    exact ⟨hwm, hwu⟩
  have lvlen : lv.length ≤ lim := by
    rw [hlv, List.length_map]
    exact Nat.le_trans (List.length_filter_le _ _) (by simpa using l1)
  rw [elv, ← run_m] at el
  obtain ⟨s8, hs8⟩ : ∃ s8, s8 = ((sW n m f g L L2 r p).set 7 (some (nV x))).set 8 (some (.fls (lv.map nV))) := ⟨_, rfl⟩
  have ef1 := lc_fit (m := m) (g := g) (s0 := s8) (h := S ++ (os ++ [.lst (q.map nV)])) (fun v => leB g v u) (fv := List.range m) (fun v hv => List.mem_range.mp hv) (by simpa using l2) (cd := truM (callM f_law_at_most [] (consA (varM 5) (consA (varM 11) (consA (opM ixF (varM 3) (varM 7)) nilA))))) (fun v hv => by
    have := at_most_ (g := g) (h := S ++ (os ++ [.lst (q.map nV)])) (List.mem_range.mp hv) hum
    rw [hs8]
    simp [sW, atI_n, hu, this]) (fun v => by rw [hs8]; rfl)
  obtain ⟨fv, hfv⟩ : ∃ fv : List Nat, fv = (List.range m).filter fun v => leB g v u := ⟨_, rfl⟩
  have fvm : ∀ v, v ∈ fv ↔ v < m ∧ leB g v u = true := fun v => by rw [hfv, List.mem_filter, List.mem_range]
  have fvlen : fv.length ≤ 64 := by
    rw [hfv]
    exact Nat.le_trans (List.length_filter_le _ _) (by simpa using hm)
  rw [← hfv, ← run_m] at ef1
  obtain ⟨s10, hs10⟩ : ∃ s10, s10 = s8.set 10 (some (.fls (fv.map nV))) := ⟨_, rfl⟩
  have ef2 := lc_fit (m := m) (g := g) (s0 := s10) (h := S ++ (os ++ [.lst (q.map nV)])) (fun v => lv.all fun a => leB g a v) (fv := fv) (fun v hv => ((fvm v).mp hv).1) (by unfold lim; omega) (cd := tstM (opM eqF (bltM lenF (consA (flsM (lcM (seqI (varM 8)) [12] (one 12) (notT (truM (callM f_law_at_most [] (consA (varM 5) (consA (varM 12) (consA (varM 11) nilA)))))) (varM 12))) nilA)) (cM (.int 0)))) (fun v hv => by
    have e2 := lc_p (i := 12) (f := nV) (cd := notT (truM (callM f_law_at_most [] (consA (varM 5) (consA (varM 12) (consA (varM 11) nilA)))))) (el := varM 12) (s0 := s10.set 11 (some (nV v)))
      (h := S ++ (os ++ [.lst (q.map nV)])) (fun a => !leB g a v) nV (xs := lv) lvlen fun a ha => by
        have := at_most_ (g := g) (h := S ++ (os ++ [.lst (q.map nV)])) (lvlt a ha).1 ((fvm v).mp hv).1
        refine ⟨?_, fun _ => by rw [hs10, hs8]; rfl⟩
        rw [hs10, hs8]
        simp [sW, this]
    rw [← all_empty]
    generalize (lv.filter fun a => !leB g a v) = zs at e2 ⊢
    rw [hs10, hs8] at e2 ⊢
    unfold sW at e2 ⊢
    simp at e2
    simp [e2, eq0]) (fun v => by rw [hs10, hs8]; rfl)
  obtain ⟨gv, hgv⟩ : ∃ gv : List Nat, gv = fv.filter fun v => lv.all fun a => leB g a v := ⟨_, rfl⟩
  rw [← hgv] at ef2
  have gvm : ∀ v, v ∈ gv ↔ (v < m ∧ leB g v u = true) ∧ ∀ a ∈ lv, leB g a v = true := fun v => by rw [hgv, List.mem_filter, fvm, List.all_eq_true]
  have gvlen : gv.length ≤ 64 := by
    rw [hgv]
    exact Nat.le_trans (List.length_filter_le _ _) fvlen
  have un : u ∈ gv := (gvm u).mpr ⟨⟨hum, leB_refl⟩, fun a ha => (lvlt a ha).2⟩
  obtain ⟨d, v, S2, e2, ev, mv, hS2⟩ := draw_of (os := os ++ [.lst (q.map nV)]) (es := gv) hS (List.length_pos_iff.mpr (List.ne_nil_of_mem un)) gvlen
  obtain ⟨⟨hv1, hv2⟩, hv3⟩ := (gvm v).mp mv
  have a2 := at1 (t := []) (o := .lst (q.map nV)) (S := S2) (os := os) hS2.len hp
  have a3 := st1 (t := []) (o := .lst (q.map nV)) (u := .lst ((q.set x v).map nV)) (S := S2) (os := os) hS2.len hp
  rw [List.map_set] at a3
  have hxq : x < q.length := by rw [hq]; exact hx
  refine ⟨v, S2, ?_, hv1, hv2, fun y w hy hf hw => hv3 w ((lvm w).mpr ⟨y, hy, hf, by rw [List.getD_eq_getElem?_getD, hw]; rfl⟩), hS2⟩
  rw [hs10] at ef2
  rw [hs8] at ef1 ef2
  unfold sW matV at el ef1 ef2 ⊢
  simp only [List.set_cons_succ, List.set_cons_zero] at el ef1 ef2
  simp [b1_law_lower, q1, q2, el, lm, q3, q4, ef1, ef2, e2, atI_n, ev, a2, ixN_n, hxq, a3]
end Mi.k14
set_option maxHeartbeats 4000000
namespace Mi.k14
open PySem L2
open Mi.k13 (St Ow owV Ri mkL mkV cov mem In)
/-- row[x] drawn among what is at least r[x] and at most the highs -/
theorem high_turn {S os : MH} {n m p x : Nat} {f g : Nat → Nat → Bool} {L L2 r q : List Nat} (hS : St S) (o1 : Ow n f L) (o2 : Ow m g L2) (hr : Mp n m r) (hq : q.length = n) (hp : p = 1 + os.length) (hx : x < n) (hlow : ∀ y, y < n → f x y = true → ∃ v, q[y]? = some v ∧ v < m ∧ leB g (r.getD x 0) v = true) :
    ∃ v S', turnM (one 7) b1_law_higher (nV x) (sW n m f g L L2 r p) (S ++ (os ++ [.lst (q.map nV)])) = some (.nx (sW n m f g L L2 r p) (S' ++ (os ++ [.lst ((q.set x v).map nV)]))) ∧ v < m ∧ leB g (r.getD x 0) v = true ∧ (∀ y w, y < n → f x y = true → q[y]? = some w → leB g v w = true) ∧ St S' := by
  have hn := o1.le
  have hm := o2.le
  have q1 : (n : Int) ≤ 1000000 := by omega
  have q2 : (-1000000 : Int) ≤ n := by omega
  have q3 : (m : Int) ≤ 1000000 := by omega
  have q4 : (-1000000 : Int) ≤ m := by omega
  have l1 : n ≤ lim := by unfold lim; omega
  have l2 : m ≤ lim := by unfold lim; omega
  obtain ⟨u, hu, hum⟩ := hr.at hx
  have eu : r.getD x 0 = u := by rw [List.getD_eq_getElem?_getD, hu]; rfl
  rw [eu] at hlow ⊢
  have a1 := at1 (t := []) (o := .lst (q.map nV)) (S := S) (os := os) hS.len hp
  have t1 : ∀ y, y < n → (tb n fun x => MV.fls (tb n fun y => MV.bl (f x y)))[y]? = some (.fls (tb n fun z => .bl (f y z))) := fun y hy => tb_get hy
  have t2 : ∀ y, y < n → (tb n fun z => MV.bl (f x z))[y]? = some (.bl (f x y)) := fun y hy => tb_get hy
  have lm : (tb m fun x => MV.fls (tb m fun y => MV.bl (g x y))).length = m := tb_len
  have el := lc_p (i := 9) (f := nV) (cd := truM (opM ixF (opM ixF (opM ixF (varM 1) (cM (.int 1))) (varM 7)) (varM 9))) (el := opM ixF (varM 6) (varM 9)) (s0 := (sW n m f g L L2 r p).set 7 (some (nV x)))
    (h := S ++ (os ++ [.lst (q.map nV)])) (fun y => f x y) (fun y => nV (q.getD y 0)) (xs := List.range n) (by simpa using l1) fun y hy => by
      have hy' := List.mem_range.mp hy
      refine ⟨?_, fun c => ?_⟩
      · simp [sW, owV, atI_1, matV, atI_n, t1 x hx, t2 y hy']
      · obtain ⟨v, hv, _⟩ := hlow y hy' c
        simp [sW, a1, atI_n, hv]
  obtain ⟨lv, hlv⟩ : ∃ lv : List Nat, lv = ((List.range n).filter fun y => f x y).map fun y => q.getD y 0 := ⟨_, rfl⟩
  have elv : ((List.range n).filter fun y => f x y).map (fun y => nV (q.getD y 0)) = lv.map nV := by
    rw [hlv, List.map_map]
    rfl
  have lvm : ∀ v, v ∈ lv ↔ ∃ y, y < n ∧ f x y = true ∧ q.getD y 0 = v := fun v => by
    rw [hlv, List.mem_map]
    simp [List.mem_filter, List.mem_range, and_assoc]
  have lvlt : ∀ v ∈ lv, v < m ∧ leB g u v = true := fun v hv => by
    obtain ⟨y, hy, hf, e⟩ := (lvm v).mp hv
    obtain ⟨w, hw, hwm, hwu⟩ := hlow y hy hf
    rw [List.getD_eq_getElem?_getD, hw] at e
    have e' : w = v := e
    rw [← e']
    exact ⟨hwm, hwu⟩
  have lvlen : lv.length ≤ lim := by
    rw [hlv, List.length_map]
    exact Nat.le_trans (List.length_filter_le _ _) (by simpa using l1)
  rw [elv, ← run_m] at el
  obtain ⟨s8, hs8⟩ : ∃ s8, s8 = ((sW n m f g L L2 r p).set 7 (some (nV x))).set 8 (some (.fls (lv.map nV))) := ⟨_, rfl⟩
  have ef1 := lc_fit (m := m) (g := g) (s0 := s8) (h := S ++ (os ++ [.lst (q.map nV)])) (fun v => leB g u v) (fv := List.range m) (fun v hv => List.mem_range.mp hv) (by simpa using l2) (cd := truM (callM f_law_at_most [] (consA (varM 5) (consA (opM ixF (varM 3) (varM 7)) (consA (varM 11) nilA))))) (fun v hv => by
    have := at_most_ (g := g) (h := S ++ (os ++ [.lst (q.map nV)])) hum (List.mem_range.mp hv)
    rw [hs8]
    simp [sW, atI_n, hu, this]) (fun v => by rw [hs8]; rfl)
  obtain ⟨fv, hfv⟩ : ∃ fv : List Nat, fv = (List.range m).filter fun v => leB g u v := ⟨_, rfl⟩
  have fvm : ∀ v, v ∈ fv ↔ v < m ∧ leB g u v = true := fun v => by rw [hfv, List.mem_filter, List.mem_range]
  have fvlen : fv.length ≤ 64 := by
    rw [hfv]
    exact Nat.le_trans (List.length_filter_le _ _) (by simpa using hm)
  rw [← hfv, ← run_m] at ef1
  obtain ⟨s10, hs10⟩ : ∃ s10, s10 = s8.set 10 (some (.fls (fv.map nV))) := ⟨_, rfl⟩
  have ef2 := lc_fit (m := m) (g := g) (s0 := s10) (h := S ++ (os ++ [.lst (q.map nV)])) (fun v => lv.all fun a => leB g v a) (fv := fv) (fun v hv => ((fvm v).mp hv).1) (by unfold lim; omega) (cd := tstM (opM eqF (bltM lenF (consA (flsM (lcM (seqI (varM 8)) [12] (one 12) (notT (truM (callM f_law_at_most [] (consA (varM 5) (consA (varM 11) (consA (varM 12) nilA)))))) (varM 12))) nilA)) (cM (.int 0)))) (fun v hv => by
    have e2 := lc_p (i := 12) (f := nV) (cd := notT (truM (callM f_law_at_most [] (consA (varM 5) (consA (varM 11) (consA (varM 12) nilA)))))) (el := varM 12) (s0 := s10.set 11 (some (nV v)))
      (h := S ++ (os ++ [.lst (q.map nV)])) (fun a => !leB g v a) nV (xs := lv) lvlen fun a ha => by
        have := at_most_ (g := g) (h := S ++ (os ++ [.lst (q.map nV)])) ((fvm v).mp hv).1 (lvlt a ha).1
        refine ⟨?_, fun _ => by rw [hs10, hs8]; rfl⟩
        rw [hs10, hs8]
        simp [sW, this]
    rw [← all_empty]
    generalize (lv.filter fun a => !leB g v a) = zs at e2 ⊢
    rw [hs10, hs8] at e2 ⊢
    unfold sW at e2 ⊢
    simp at e2
    simp [e2, eq0]) (fun v => by rw [hs10, hs8]; rfl)
  obtain ⟨gv, hgv⟩ : ∃ gv : List Nat, gv = fv.filter fun v => lv.all fun a => leB g v a := ⟨_, rfl⟩
  rw [← hgv] at ef2
  have gvm : ∀ v, v ∈ gv ↔ (v < m ∧ leB g u v = true) ∧ ∀ a ∈ lv, leB g v a = true := fun v => by rw [hgv, List.mem_filter, fvm, List.all_eq_true]
  have gvlen : gv.length ≤ 64 := by
    rw [hgv]
    exact Nat.le_trans (List.length_filter_le _ _) fvlen
  have un : u ∈ gv := (gvm u).mpr ⟨⟨hum, leB_refl⟩, fun a ha => (lvlt a ha).2⟩
  obtain ⟨d, v, S2, e2, ev, mv, hS2⟩ := draw_of (os := os ++ [.lst (q.map nV)]) (es := gv) hS (List.length_pos_iff.mpr (List.ne_nil_of_mem un)) gvlen
  obtain ⟨⟨hv1, hv2⟩, hv3⟩ := (gvm v).mp mv
  have a2 := at1 (t := []) (o := .lst (q.map nV)) (S := S2) (os := os) hS2.len hp
  have a3 := st1 (t := []) (o := .lst (q.map nV)) (u := .lst ((q.set x v).map nV)) (S := S2) (os := os) hS2.len hp
  rw [List.map_set] at a3
  have hxq : x < q.length := by rw [hq]; exact hx
  refine ⟨v, S2, ?_, hv1, hv2, fun y w hy hf hw => hv3 w ((lvm w).mpr ⟨y, hy, hf, by rw [List.getD_eq_getElem?_getD, hw]; rfl⟩), hS2⟩
  rw [hs10] at ef2
  rw [hs8] at ef1 ef2
  unfold sW matV at el ef1 ef2 ⊢
  simp only [List.set_cons_succ, List.set_cons_zero] at el ef1 ef2
  simp [b1_law_higher, q1, q2, el, lm, q3, q4, ef1, ef2, e2, atI_n, ev, a2, ixN_n, hxq, a3]
theorem leB_op {g : Nat → Nat → Bool} {a b : Nat} : leB (fun a b => g b a) a b = leB g b a := by
  unfold leB
  congr 1
  rw [Bool.eq_iff_iff, beq_iff_eq, beq_iff_eq]
  omega
/-- the points of D are done -/
structure PI (n m : Nat) (F G : Nat → Nat → Bool) (r D q : List Nat) : Prop where
  len : q.length = n
  lt : ∀ z w, z ∈ D → q[z]? = some w → w < m ∧ leB G w (r.getD z 0) = true
  up : ∀ z y w u, z ∈ D → y ∈ D → F z y = true → q[z]? = some w → q[y]? = some u → leB G w u = true
theorem PI.step {n m i x v : Nat} {F G : Nat → Nat → Bool} {r M q : List Nat} (h : PI n m F G r (M.take i) q) (nd : M.Nodup) (hx : M[i]? = some x) (irr : ∀ x, F x x = false) (dc : ∀ (j y z : Nat), M[j]? = some z → F y z = true → y ∈ M.take j) (hxn : x < n) (hv : v < m) (hu : leB G v (r.getD x 0) = true)
    (hl : ∀ y w, F y x = true → q[y]? = some w → leB G w v = true) : PI n m F G r (M.take (i + 1)) (q.set x v) := by
  have mem : ∀ {z}, z ∈ M.take (i + 1) → z ∈ M.take i ∨ z = x := fun hz => by
    rw [List.take_add_one, hx] at hz
    rcases List.mem_append.mp hz with k | k
    · exact .inl k
    · exact .inr (List.mem_singleton.mp k)
  have nx : ∀ {z}, z ∈ M.take i → z ≠ x := fun hz e => by
    obtain ⟨j, hj⟩ := List.getElem?_of_mem hz
    have q1 := (List.getElem?_eq_some_iff.mp hj).1
    rw [List.length_take] at q1
    rw [List.getElem?_take_of_lt (by omega), e] at hj
    have := nd_ix nd hj hx
    omega
  have hxq : x < q.length := by rw [h.len]; exact hxn
  refine ⟨by rw [List.length_set]; exact h.len, fun z w hz hw => ?_, fun z y w u hz hy hf hw hu' => ?_⟩
  · rcases mem hz with k | k
    · rw [List.getElem?_set_ne (Ne.symm (nx k))] at hw
      exact h.lt z w k hw
    · subst k
      rw [List.getElem?_set_self hxq] at hw
      cases hw
      exact ⟨hv, hu⟩
  · rcases mem hz with k | k
    · rw [List.getElem?_set_ne (Ne.symm (nx k))] at hw
      rcases mem hy with k2 | k2
      · rw [List.getElem?_set_ne (Ne.symm (nx k2))] at hu'
        exact h.up z y w u k k2 hf hw hu'
      · subst k2
        rw [List.getElem?_set_self hxq] at hu'
        cases hu'
        exact hl z w hf hw
    · subst k
      rcases mem hy with k2 | k2
      · obtain ⟨j, hj⟩ := List.getElem?_of_mem k2
        have q1 := (List.getElem?_eq_some_iff.mp hj).1
        rw [List.length_take] at q1
        rw [List.getElem?_take_of_lt (by omega)] at hj
        obtain ⟨j2, hj2⟩ := List.getElem?_of_mem (dc j z y hj hf)
        have q2 := (List.getElem?_eq_some_iff.mp hj2).1
        rw [List.length_take] at q2
        rw [List.getElem?_take_of_lt (by omega)] at hj2
        have := nd_ix nd hj2 hx
        omega
      · subst k2
        rw [irr] at hf
        cases hf
theorem mem_take_of {M : List Nat} {i j x : Nat} (h : M[i]? = some x) (hij : i < j) : x ∈ M.take j := by
  refine List.mem_of_getElem? (i := i) ?_
  rw [List.getElem?_take_of_lt hij]
  exact h
theorem dc_line {n : Nat} {f : Nat → Nat → Bool} {L : List Nat} (o : Ow n f L) : ∀ (j y z : Nat), L[j]? = some z → f y z = true → y ∈ L.take j := fun j y z hz hf => by
  obtain ⟨i, k, h1, h2, h3, h4⟩ := o.oi.ix _ _ hf
  have : k = j := nd_ix (o.pm.nodup_iff.mpr List.nodup_range) h4 hz
  subst this
  exact mem_take_of h3 h1
theorem dc_rev {n : Nat} {f : Nat → Nat → Bool} {L : List Nat} (o : Ow n f L) : ∀ (j y z : Nat), L.reverse[j]? = some z → f z y = true → y ∈ L.reverse.take j := fun j y z hz hf => by
  have hlen : L.length = n := by simpa using o.pm.length_eq
  obtain ⟨i, k, h1, h2, h3, h4⟩ := o.oi.ix _ _ hf
  have hj := (List.getElem?_eq_some_iff.mp hz).1
  rw [List.length_reverse] at hj
  rw [List.getElem?_reverse hj] at hz
  have e : i = L.length - 1 - j := nd_ix (o.pm.nodup_iff.mpr List.nodup_range) h3 hz
  refine mem_take_of (i := L.length - 1 - k) ?_ (by omega)
  rw [List.getElem?_reverse (by omega), show L.length - 1 - (L.length - 1 - k) = k by omega]
  exact h4
theorem row_at {r : List Nat} {x v : Nat} (h : r[x]? = some v) : r.getD x 0 = v := by
  rw [List.getD_eq_getElem?_getD, h]
  rfl
theorem lower_ {S os : MH} {n m : Nat} {f g : Nat → Nat → Bool} {L L2 r : List Nat} (hS : St S) (o1 : Ow n f L) (o2 : Ow m g L2) (hr : Ri n m f g r) : ∃ (q : List Nat) (S' : MH),
    f_law_lower [.ref 0, owV n f L, owV m g L2, .fls (r.map nV)] (S ++ os) = ok (.fls (q.map nV)) (S' ++ os) ∧ Ri n m f g q ∧ Le n g q r ∧ St S' := by
  obtain ⟨p, hp⟩ : ∃ p, p = 1 + os.length := ⟨_, rfl⟩
  have hn := o1.le
  have l1 : n ≤ lim := by unfold lim; omega
  have q1 : (n : Int) ≤ 1000000 := by omega
  have q2 : (-1000000 : Int) ≤ n := by omega
  have nd : L.Nodup := o1.pm.nodup_iff.mpr List.nodup_range
  have hlen : L.length = n := by simpa using o1.pm.length_eq
  have hlt : ∀ x ∈ L, x < n := fun x hx => List.mem_range.mp (o1.pm.mem_iff.mp hx)
  obtain ⟨⟨q, S1⟩, e, h1, h2⟩ := for_m (f := nV) (bd := turnM (one 7) b1_law_lower) (xs := L) (a0 := (List.replicate n 0, S)) (fun _ : List Nat × MH => sW n m f g L L2 r p) (fun a => a.2 ++ (os ++ [.lst (a.1.map nV)])) (fun i a => PI n m f g r (L.take i) a.1 ∧ St a.2)
    ⟨⟨by simp, fun z w hz => (nomatch hz), fun z y w u hz => (nomatch hz)⟩, hS⟩ fun i x a hx ⟨h1, h2⟩ => by
      obtain ⟨q, S1⟩ := a
      have hxn := hlt x (List.mem_of_getElem? hx)
      obtain ⟨u, hu, _⟩ := hr.toMp.at hxn
      obtain ⟨v, S2, e, b1, b2, b3, b4⟩ := low_turn (os := os) h2 o1 o2 hr.toMp h1.len hp hxn fun y hy hf => by
        have hyd := dc_line o1 i y x hx hf
        obtain ⟨w, hw⟩ : ∃ w, q[y]? = some w := ⟨_, List.getElem?_eq_getElem (by rw [h1.len]; exact hy)⟩
        obtain ⟨c1, c2⟩ := h1.lt y w hyd hw
        obtain ⟨t, ht, _⟩ := hr.toMp.at hy
        rw [row_at ht] at c2
        refine ⟨w, hw, c1, ?_⟩
        rw [row_at hu]
        exact leB_tr o2.so c2 (hr.up y x t u hf ht hu)
      exact ⟨(q.set x v, S2), .inl e, h1.step nd hx o1.so.irr (dc_line o1) hxn b1 b2 fun y w hf hw => b3 y w (o1.so.lt _ _ hf).1 hf hw, b4⟩
  rw [hlen] at h1
  rw [List.take_of_length_le (by omega)] at h1
  have all : ∀ x, x < n → x ∈ L := fun x hx => o1.pm.mem_iff.mpr (List.mem_range.mpr hx)
  have hp' : S.length + os.length = p := by rw [hS.len, hp]
  refine ⟨q, S1, ?_, ⟨⟨h1.len, fun v hv => ?_⟩, fun x y v w hf hv hw => h1.up x y v w (all x (o1.so.lt _ _ hf).1) (all y (o1.so.lt _ _ hf).2) hf hv hw⟩, fun x v w hx hv hw => ?_, h2⟩
  · refine cut_s (ks := [.dead]) ?_ (by rw [h2.len, hS.len]) h2.self (by simp)
    refine defM_ret rfl ?_
    show m_law_lower [some (.ref 0), some (owV n f L), some (owV m g L2), some (.fls (r.map nV)), none, none, none, none, none, none, none, none, none] (S ++ os) = _
    unfold m_law_lower
    have lmt : (tb n fun x => MV.fls (tb n fun y => MV.bl (f x y))).length = n := tb_len
    have rp : (List.replicate n [MV.int 0]).flatten = (List.replicate n 0).map nV := by simp
    have l3 : 1 ≤ lim := by unfold lim; omega
    have a1 := at1 (t := []) (o := .lst (q.map nV)) (S := S1) (os := os) h2.len hp
    have fl := frz_lst 2 a1 (List.all_eq_true.mpr fun x hx => by
      obtain ⟨i, _, e⟩ := List.mem_map.mp hx
      rw [← e]
      rfl)
    rw [st1 h2.len hp] at fl
    have i1 : ∀ h, ixF (owV m g L2) (.int 1) h = ok (matV m m g) h := fun h => by simp [owV, atI_1]
    rw [seq_nx (s1 := [some (.ref 0), some (owV n f L), some (owV m g L2), some (.fls (r.map nV)), some (nV n), none, none, none, none, none, none, none, none]) (h1 := S ++ os) (by simp [owV, atI_1, matV, lmt]),
      seq_nx (s1 := [some (.ref 0), some (owV n f L), some (owV m g L2), some (.fls (r.map nV)), some (nV n), some (matV m m g), none, none, none, none, none, none, none]) (h1 := S ++ os) (by simp only [setS, opM, varM, slot, may, cM, bnd_ok, i1, bndS_ok]; rfl),
      seq_nx (s1 := sW n m f g L L2 r p) (h1 := S ++ (os ++ [.lst ((List.replicate n 0).map nV)])) (by simp [sW, l3, q1, q2, l1, hp', rp])]
    have e' : preW [7, 8, 10] (forM (seqI (opM ixF (varM 1) (cM (.int 2)))) (one 7) b1_law_lower) (sW n m f g L L2 r p) (S ++ (os ++ [.lst ((List.replicate n 0).map nV)])) = some (.nx (sW n m f g L L2 r p) (S1 ++ (os ++ [.lst (q.map nV)]))) := by
      have i2 : ∀ h, ixF (owV n f L) (.int 2) h = ok (.fls (L.map nV)) h := fun h => by simp [owV, atI_2]
      have sq : seqI (opM ixF (varM 1) (cM (.int 2))) (sW n m f g L L2 r p) (S ++ (os ++ [.lst ((List.replicate n 0).map nV)])) = ok (.st (L.map nV)) (S ++ (os ++ [.lst ((List.replicate n 0).map nV)])) := by
        unfold seqI opM
        show ((ixF (owV n f L) (.int 2) _).bnd _) = _
        rw [i2]
        rfl
      show forM (seqI (opM ixF (varM 1) (cM (.int 2)))) (one 7) b1_law_lower (sW n m f g L L2 r p) _ = _
      unfold forM
      rw [sq, bndS_ok]
      exact e
    rw [seq_nx e']
    simp [sW, fl]
  · obtain ⟨x, hx⟩ := List.getElem?_of_mem hv
    have := (List.getElem?_eq_some_iff.mp hx).1
    exact (h1.lt x v (all x (by rw [← h1.len]; exact this)) hx).1
  · have := (h1.lt x v (all x hx) hv).2
    rwa [row_at hw] at this
theorem higher_ {S os : MH} {n m : Nat} {f g : Nat → Nat → Bool} {L L2 r : List Nat} (hS : St S) (o1 : Ow n f L) (o2 : Ow m g L2) (hr : Ri n m f g r) : ∃ (q : List Nat) (S' : MH),
    f_law_higher [.ref 0, owV n f L, owV m g L2, .fls (r.map nV)] (S ++ os) = ok (.fls (q.map nV)) (S' ++ os) ∧ Ri n m f g q ∧ Le n g r q ∧ St S' := by
  obtain ⟨p, hp⟩ : ∃ p, p = 1 + os.length := ⟨_, rfl⟩
  have hn := o1.le
  have l1 : n ≤ lim := by unfold lim; omega
  have q1 : (n : Int) ≤ 1000000 := by omega
  have q2 : (-1000000 : Int) ≤ n := by omega
  have nd : L.reverse.Nodup := (List.reverse_perm L).nodup_iff.mpr (o1.pm.nodup_iff.mpr List.nodup_range)
  have hlen : L.length = n := by simpa using o1.pm.length_eq
  have hlt : ∀ x ∈ L.reverse, x < n := fun x hx => List.mem_range.mp (o1.pm.mem_iff.mp (List.mem_reverse.mp hx))
  obtain ⟨⟨q, S1⟩, e, h1, h2⟩ := for_m (f := nV) (bd := turnM (one 7) b1_law_higher) (xs := L.reverse) (a0 := (List.replicate n 0, S)) (fun _ : List Nat × MH => sW n m f g L L2 r p) (fun a => a.2 ++ (os ++ [.lst (a.1.map nV)])) (fun i a => PI n m (fun x y => f y x) (fun x y => g y x) r (L.reverse.take i) a.1 ∧ St a.2)
    ⟨⟨by simp, fun z w hz => (nomatch hz), fun z y w u hz => (nomatch hz)⟩, hS⟩ fun i x a hx ⟨h1, h2⟩ => by
      obtain ⟨q, S1⟩ := a
      have hxn := hlt x (List.mem_of_getElem? hx)
      obtain ⟨u, hu, _⟩ := hr.toMp.at hxn
      obtain ⟨v, S2, e, b1, b2, b3, b4⟩ := high_turn (os := os) h2 o1 o2 hr.toMp h1.len hp hxn fun y hy hf => by
        have hyd := dc_rev o1 i y x hx hf
        obtain ⟨w, hw⟩ : ∃ w, q[y]? = some w := ⟨_, List.getElem?_eq_getElem (by rw [h1.len]; exact hy)⟩
        obtain ⟨c1, c2⟩ := h1.lt y w hyd hw
        rw [leB_op] at c2
        obtain ⟨t, ht, _⟩ := hr.toMp.at hy
        rw [row_at ht] at c2
        refine ⟨w, hw, c1, ?_⟩
        rw [row_at hu]
        exact leB_tr o2.so (hr.up x y u t hf hu ht) c2
      exact ⟨(q.set x v, S2), .inl e, h1.step nd hx o1.so.irr (dc_rev o1) hxn b1 (by rw [leB_op]; exact b2) fun y w hf hw => by rw [leB_op]; exact b3 y w (o1.so.lt _ _ hf).2 hf hw, b4⟩
  rw [List.length_reverse, hlen] at h1
  rw [List.take_of_length_le (by rw [List.length_reverse]; omega)] at h1
  have all : ∀ x, x < n → x ∈ L.reverse := fun x hx => List.mem_reverse.mpr (o1.pm.mem_iff.mpr (List.mem_range.mpr hx))
  have hp' : S.length + os.length = p := by rw [hS.len, hp]
  refine ⟨q, S1, ?_, ⟨⟨h1.len, fun v hv => ?_⟩, fun x y v w hf hv hw => ?_⟩, fun x v w hx hv hw => ?_, h2⟩
  · refine cut_s (ks := [.dead]) ?_ (by rw [h2.len, hS.len]) h2.self (by simp)
    refine defM_ret rfl ?_
    show m_law_higher [some (.ref 0), some (owV n f L), some (owV m g L2), some (.fls (r.map nV)), none, none, none, none, none, none, none, none, none] (S ++ os) = _
    unfold m_law_higher
    have lmt : (tb n fun x => MV.fls (tb n fun y => MV.bl (f x y))).length = n := tb_len
    have rp : (List.replicate n [MV.int 0]).flatten = (List.replicate n 0).map nV := by simp
    have l3 : 1 ≤ lim := by unfold lim; omega
    have a1 := at1 (t := []) (o := .lst (q.map nV)) (S := S1) (os := os) h2.len hp
    have fl := frz_lst 2 a1 (List.all_eq_true.mpr fun x hx => by
      obtain ⟨i, _, e⟩ := List.mem_map.mp hx
      rw [← e]
      rfl)
    rw [st1 h2.len hp] at fl
    have i1 : ∀ h, ixF (owV m g L2) (.int 1) h = ok (matV m m g) h := fun h => by simp [owV, atI_1]
    rw [seq_nx (s1 := [some (.ref 0), some (owV n f L), some (owV m g L2), some (.fls (r.map nV)), some (nV n), none, none, none, none, none, none, none, none]) (h1 := S ++ os) (by simp [owV, atI_1, matV, lmt]),
      seq_nx (s1 := [some (.ref 0), some (owV n f L), some (owV m g L2), some (.fls (r.map nV)), some (nV n), some (matV m m g), none, none, none, none, none, none, none]) (h1 := S ++ os) (by simp only [setS, opM, varM, slot, may, cM, bnd_ok, i1, bndS_ok]; rfl),
      seq_nx (s1 := sW n m f g L L2 r p) (h1 := S ++ (os ++ [.lst ((List.replicate n 0).map nV)])) (by simp [sW, l3, q1, q2, l1, hp', rp])]
    have e' : preW [7, 8, 10] (forM (seqI (flsM (rvsL (opM ixF (varM 1) (cM (.int 2)))))) (one 7) b1_law_higher) (sW n m f g L L2 r p) (S ++ (os ++ [.lst ((List.replicate n 0).map nV)])) = some (.nx (sW n m f g L L2 r p) (S1 ++ (os ++ [.lst (q.map nV)]))) := by
      have i2 : ∀ h, ixF (owV n f L) (.int 2) h = ok (.fls (L.map nV)) h := fun h => by simp [owV, atI_2]
      have sq : seqI (flsM (rvsL (opM ixF (varM 1) (cM (.int 2))))) (sW n m f g L L2 r p) (S ++ (os ++ [.lst ((List.replicate n 0).map nV)])) = ok (.st (L.reverse.map nV)) (S ++ (os ++ [.lst ((List.replicate n 0).map nV)])) := by
        have o2' : opM ixF (varM 1) (cM (.int 2)) (sW n m f g L L2 r p) (S ++ (os ++ [.lst ((List.replicate n 0).map nV)])) = ok (.fls (L.map nV)) (S ++ (os ++ [.lst ((List.replicate n 0).map nV)])) := i2 _
        unfold seqI flsM rvsL
        rw [o2', bnd_ok]
        simp
      show forM (seqI (flsM (rvsL (opM ixF (varM 1) (cM (.int 2)))))) (one 7) b1_law_higher (sW n m f g L L2 r p) _ = _
      unfold forM
      rw [sq, bndS_ok]
      exact e
    rw [seq_nx e']
    simp [sW, fl]
  · obtain ⟨x, hx⟩ := List.getElem?_of_mem hv
    have := (List.getElem?_eq_some_iff.mp hx).1
    exact (h1.lt x v (all x (by rw [← h1.len]; exact this)) hx).1
  · have := h1.up y x w v (all y (o1.so.lt _ _ hf).2) (all x (o1.so.lt _ _ hf).1) hf hw hv
    rwa [leB_op] at this
  · have := (h1.lt x w (all x hx) hw).2
    rw [leB_op] at this
    rwa [row_at hv] at this
end Mi.k14
set_option maxHeartbeats 4000000
namespace Mi.k14
open PySem L2
open Mi.k13 (St Ow owV Ri mkL mkV cov mem In)
def ltP (p q : Nat × Nat) : Prop := p.1 < q.1 ∨ (p.1 = q.1 ∧ p.2 < q.2)
theorem lt_irr {p : Nat × Nat} (h : ltP p p) : False := by
  unfold ltP at h
  omega
theorem lt_tr {p q r : Nat × Nat} (a : ltP p q) (b : ltP q r) : ltP p r := by
  unfold ltP at *
  omega
instance (p q : Nat × Nat) : Decidable (ltP p q) := by unfold ltP; exact inferInstance
theorem prs_ss {n : Nat} {f : Nat → Nat → Bool} : (prs n f).Pairwise ltP := by
  unfold prs
  rw [List.pairwise_flatMap]
  constructor
  · intro x _
    rw [List.pairwise_map]
    refine List.Pairwise.imp (R := (· < ·)) (fun {a b} h => .inr ⟨rfl, h⟩) ?_
    unfold fib
    exact (List.pairwise_lt_range).filter _
  · refine List.Pairwise.imp (R := (· < ·)) (fun {a b} h p hp q hq => ?_) List.pairwise_lt_range
    obtain ⟨y, _, e⟩ := List.mem_map.mp hp
    obtain ⟨z, _, e2⟩ := List.mem_map.mp hq
    rw [← e, ← e2]
    exact .inl h
theorem ss_get {P : List (Nat × Nat)} (S : P.Pairwise ltP) {i j : Nat} {p q : Nat × Nat} (hij : i < j) (ei : P[i]? = some p) (ej : P[j]? = some q) : ltP p q := by
  obtain ⟨h1, e1⟩ := List.getElem?_eq_some_iff.mp ei
  obtain ⟨h2, e2⟩ := List.getElem?_eq_some_iff.mp ej
  rw [← e1, ← e2]
  exact List.pairwise_iff_getElem.mp S i j h1 h2 hij
theorem lex_pr {p q : Nat × Nat} : HT.lexLt [(p.1 : Int), (p.2 : Int)] [(q.1 : Int), (q.2 : Int)] = decide (ltP p q) := by
  unfold ltP
  simp only [HT.lexLt_cons, HT.lexLt_nil_nil]
  by_cases h1 : p.1 = q.1
  · by_cases h2 : p.2 = q.2
    · simp [h1, h2]
    · have h3 : ¬ ((p.2 : Int) = (q.2 : Int)) := by omega
      simp [h1, h2, h3]
  · have h3 : ¬ ((p.1 : Int) = (q.1 : Int)) := by omega
    simp [h1, h3]
theorem eq_pr {p q : Nat × Nat} : eqB (prV p) (.tup [.int (q.1 : Int), .int (q.2 : Int)]) = some (decide (p = q)) := by
  have e : decide (p = q) = (decide (p.1 = q.1) && decide (p.2 = q.2)) := by
    rw [← Bool.decide_and]
    exact decide_eq_decide.mpr Prod.ext_iff
  rw [e]
  unfold eqB
  have b : ∀ a b : Nat, ((a : Int) == (b : Int)) = decide (a = b) := fun a b => by
    rw [Bool.eq_iff_iff, beq_iff_eq, decide_eq_true_iff]
    omega
  simp [pyOf, pysOf, SeqAt.shaped, PyData.eqv, PyData.canLay0, PyData.canLayAll0, PyData.depth, PyData.depthAll, PyData.eqvAll, b]
theorem whl_ok {cd : MM Bool} {bd : MT} (I : Nat → MS → MH → Prop) (hs : ∀ m s h, I m s h → cd s h = ok false h ∨ (cd s h = ok true h ∧ ∃ s' h' m', (bd s h = some (.nx s' h') ∨ bd s h = some (.cnt s' h')) ∧ m' < m ∧ I m' s' h')) :
    ∀ (fuel m : Nat) (s : MS) (h : MH), m < fuel → I m s h → ∃ s' h' m', whlG cd bd fuel s h = some (.nx s' h') ∧ I m' s' h' ∧ cd s' h' = ok false h'
  | 0, _, _, _, hm, _ => absurd hm (Nat.not_lt_zero _)
  | fuel + 1, m, s, h, hm, hi => by
    rcases hs m s h hi with e | ⟨e, s1, h1, m1, e1, l1, i1⟩
    · refine ⟨s, h, m, ?_, hi, e⟩
      unfold whlG
      rw [e, bndS_ok]
      rfl
    · obtain ⟨s2, h2, m2, e2, i2, c2⟩ := whl_ok I hs fuel m1 s1 h1 (by omega) i1
      refine ⟨s2, h2, m2, ?_, i2, c2⟩
      unfold whlG
      rw [e, bndS_ok, if_pos rfl]
      rcases e1 with e1 | e1 <;> rw [e1] <;> exact e2
theorem is_below {h : MH} {n x y : Nat} {R : Nat → Nat → Bool} (hn : n ≤ 64) (hx : x < n) (hy : y < n) : f_is_below [ordV n (prs n R), .int (x : Int), .int (y : Int)] h = ok (.bl (R x y)) h := by
  have S := prs_ss (n := n) (f := R)
  have hl : (prs n R).length ≤ 4096 := Nat.le_trans prs_len (Nat.mul_le_mul hn hn)
  have l2 : 2 ≤ lim := by unfold lim; omega
  obtain ⟨P, hP⟩ : ∃ P, prs n R = P := ⟨_, rfl⟩
  have at_ : ∀ (i : Nat) (p : Nat × Nat), P[i]? = some p → (P.map prV)[i]? = some (prV p) := fun i p e => by rw [List.getElem?_map, e]; rfl
  rw [hP] at S hl
  obtain ⟨s', h', m', e, ⟨st, en, hs, hh, hm, c1, c2, c3, c4⟩, cf⟩ := whl_ok (cd := tstM (opM ltF (varM 4) (varM 5))) (bd := b1_is_below)
    (fun m s g => ∃ (st en : Nat), s = [some (ordV n P), some (.int (x : Int)), some (.int (y : Int)), some (.tup (P.map prV)), some (.int (st : Int)), some (.int (en : Int)), none] ∧ g = h ∧ m = en - st ∧ st ≤ en ∧ en ≤ P.length ∧ (∀ i p, i < st → P[i]? = some p → ltP p (x, y)) ∧ ∀ i p, en ≤ i → P[i]? = some p → ¬ ltP p (x, y))
    (fun m s g ⟨st, en, hs, hg, hm, c1, c2, c3, c4⟩ => by
      subst hs
      subst hg
      by_cases c : st < en
      · refine .inr ⟨?_, ?_⟩
        · have c' : (st : Int) < en := by omega
          simp [c, c']
        · obtain ⟨mi, hmi, emi⟩ : ∃ mi : Nat, (st ≤ mi ∧ mi < en) ∧ ((st : Int) + (en : Int)) / 2 = (mi : Int) := ⟨(st + en) / 2, by omega, by omega⟩
          have hlt : mi < P.length := by omega
          obtain ⟨pm, ep⟩ : ∃ pm, P[mi]? = some pm := ⟨_, List.getElem?_eq_getElem hlt⟩
          have a1 := at_ mi _ ep
          have lx := lex_pr (p := pm) (q := (x, y))
          generalize P.map prV = PP at a1 ⊢
          by_cases cl : ltP pm (x, y)
          · rw [decide_eq_true cl] at lx
            refine ⟨[some (ordV n P), some (.int (x : Int)), some (.int (y : Int)), some (.tup PP), some (.int ((mi + 1 : Nat) : Int)), some (.int (en : Int)), none], g, en - (mi + 1), .inl ?_, by omega, mi + 1, en, rfl, rfl, rfl, by omega, c2, fun i p hi e => ?_, c4⟩
            · simp only at lx
              simp [b1_is_below, emi, atI_n, a1, l2, intsOf, intOf, lx]
            · rcases Nat.lt_or_ge i mi with z | z
              · exact lt_tr (ss_get S z e ep) cl
              · have : i = mi := by omega
                subst this
                rw [ep] at e
                cases e
                exact cl
          · rw [decide_eq_false cl] at lx
            refine ⟨[some (ordV n P), some (.int (x : Int)), some (.int (y : Int)), some (.tup PP), some (.int (st : Int)), some (.int (mi : Int)), none], g, mi - st, .inl ?_, by omega, st, mi, rfl, rfl, rfl, by omega, by omega, c3, fun i p hi e z => ?_⟩
            · simp only at lx
              simp [b1_is_below, emi, atI_n, a1, l2, intsOf, intOf, lx]
            · rcases Nat.lt_or_ge mi i with w | w
              · exact cl (lt_tr (ss_get S w ep e) z)
              · have : i = mi := by omega
                subst this
                rw [ep] at e
                cases e
                exact cl z
      · left
        have c' : ¬ (st : Int) < en := by omega
        simp [c, c']) 5000 P.length [some (ordV n P), some (.int (x : Int)), some (.int (y : Int)), some (.tup (P.map prV)), some (.int 0), some (.int (P.length : Int)), none] h (by omega) ⟨0, P.length, rfl, rfl, rfl, Nat.zero_le _, Nat.le_refl _, fun i p hi => absurd hi (Nat.not_lt_zero _), fun i p hi e => absurd (List.getElem?_eq_some_iff.mp e).1 (by omega)⟩
  subst hs
  subst hh
  have ce : st = en := by
    by_cases c : st < en
    · have c' : (st : Int) < en := by omega
      simp [c, c'] at cf
    · omega
  subst ce
  have mm : R x y = true ↔ (x, y) ∈ P := by
    rw [← hP, prs_mem]
    exact ⟨fun z => ⟨hx, hy, z⟩, fun z => z.2.2⟩
  rw [hP]
  unfold ordV at e ⊢
  by_cases c : st < P.length
  · have c' : (st : Int) < P.length := by omega
    obtain ⟨pm, ep⟩ : ∃ pm, P[st]? = some pm := ⟨_, List.getElem?_eq_getElem c⟩
    have a2 := at_ st _ ep
    have eb := eq_pr (p := pm) (q := (x, y))
    have er : R x y = decide (pm = (x, y)) := by
      rw [Bool.eq_iff_iff, mm, decide_eq_true_iff]
      constructor
      · intro hm
        obtain ⟨j, hj⟩ := List.getElem?_of_mem hm
        rcases Nat.lt_trichotomy j st with z | z | z
        · exact absurd (c3 j _ z hj) lt_irr
        · subst z
          rw [ep] at hj
          exact Option.some.inj hj
        · exact absurd (ss_get S z ep hj) (c4 st _ (Nat.le_refl _) ep)
      · intro e
        rw [← e]
        exact List.mem_of_getElem? ep
    rw [er]
    simp only at eb
    have ll : (((P.map prV).length : Nat) : Int) = (P.length : Int) := by rw [List.length_map]
    generalize P.map prV = PP at *
    simp [f_is_below, m_is_below, atI_1, e, ll, c, c', atI_n, a2, l2, eb]
  · have c' : ¬ (st : Int) < P.length := by omega
    have er : R x y = false := by
      cases hr : R x y with
      | false => rfl
      | true =>
        obtain ⟨j, hj⟩ := List.getElem?_of_mem (mm.mp hr)
        have := (List.getElem?_eq_some_iff.mp hj).1
        exact absurd (c3 j _ (by omega) hj) lt_irr
    rw [er]
    simp [f_is_below, m_is_below, atI_1, e, c, c']
/-- pointwise at most, as a test -/
def leR (n : Nat) (g : Nat → Nat → Bool) (r q : List Nat) : Bool := (List.range n).all fun x => leB g (r.getD x 0) (q.getD x 0)
theorem enm_ns {r : List Nat} {n : Nat} (hl : r.length = n) : enmOf 0 (r.map nV) = (List.range n).map fun x => MV.tup [nV x, nV (r.getD x 0)] := by
  refine List.ext_getElem? fun i => ?_
  rw [enm_get, List.getElem?_map, List.getElem?_map]
  by_cases c : i < n
  · rw [List.getElem?_range c, List.getElem?_eq_getElem (by omega)]
    simp
    rw [List.getElem?_eq_getElem (by omega)]
    rfl
  · rw [List.getElem?_eq_none (by omega), List.getElem?_eq_none (by simpa using Nat.le_of_not_lt c)]
    rfl
theorem pat_most {n m : Nat} {g : Nat → Nat → Bool} {r q : List Nat} {h : MH} (hm : m ≤ 64) (hr : Mp n m r) (hq : Mp n m q) : f_at_most [ordV m (prs m g), .tup (r.map nV), .tup (q.map nV)] h = ok (.bl (leR n g r q)) h := by
  have lp := for_all (bd := turnM (unp [3, 4]) b1_at_most) (f := fun x => MV.tup [nV x, nV (r.getD x 0)]) (s := [some (ordV m (prs m g)), some (.tup (r.map nV)), some (.tup (q.map nV)), none, none]) (h := h) (fun x => leB g (r.getD x 0) (q.getD x 0)) (.bl false) (xs := List.range n) fun x hx => by
    have hx' := List.mem_range.mp hx
    obtain ⟨v, hv, vl⟩ := hr.at hx'
    obtain ⟨w, hw, wl⟩ := hq.at hx'
    rw [row_at hv, row_at hw]
    have ib := is_below (h := h) (R := g) hm vl wl
    unfold leB
    by_cases c : v = w
    · subst c
      simp [b1_at_most, atI_n, hw, eqB]
    · have c' : ¬ ((v : Int) = (w : Int)) := by omega
      cases c2 : g v w <;> rw [c2] at ib <;> simp [b1_at_most, atI_n, hw, eqB, c, c', ib]
  have st : stOf (MV.tup (r.map nV)) = some (r.map nV) := rfl
  have en := enm_ns hr.len
  unfold leR
  cases c : (List.range n).all fun x => leB g (r.getD x 0) (q.getD x 0) with
  | true =>
    rw [c, if_pos rfl] at lp
    simp only [List.getD_eq_getElem?_getD] at lp en
    simp [f_at_most, m_at_most, st, en, lp]
  | false =>
    rw [c, if_neg Bool.false_ne_true] at lp
    simp only [List.getD_eq_getElem?_getD] at lp en
    simp [f_at_most, m_at_most, st, en, lp]
theorem lis_at_most {n m : Nat} {g : Nat → Nat → Bool} {L2 r q : List Nat} {h : MH} (hn : n ≤ 64) (hr : Mp n m r) (hq : Mp n m q) : f_law_is_at_most [owV m g L2, .fls (r.map nV), .fls (q.map nV)] h = ok (.bl (leR n g r q)) h := by
  have q1 : (n : Int) ≤ 1000000 := by omega
  have q2 : (-1000000 : Int) ≤ n := by omega
  have i1 : ixF (owV m g L2) (.int 1) h = ok (matV m m g) h := by simp [owV, atI_1]
  have el := lc_p (i := 3) (f := nV) (cd := notT (truM (callM f_law_at_most [] (consA (opM ixF (varM 0) (cM (.int 1))) (consA (opM ixF (varM 1) (varM 3)) (consA (opM ixF (varM 2) (varM 3)) nilA)))))) (el := varM 3) (s0 := [some (owV m g L2), some (.fls (r.map nV)), some (.fls (q.map nV)), none]) (h := h) (fun x => !leB g (r.getD x 0) (q.getD x 0)) nV (xs := List.range n) (by unfold lim; simp; omega) fun x hx => by
    have hx' := List.mem_range.mp hx
    obtain ⟨v, hv, vl⟩ := hr.at hx'
    obtain ⟨w, hw, wl⟩ := hq.at hx'
    rw [row_at hv, row_at hw]
    have := at_most_ (g := g) (h := h) vl wl
    refine ⟨?_, fun _ => by simp⟩
    simp [owV, atI_1, atI_n, hv, hw, this]
  have hl := hr.len
  rw [← run_m] at el
  unfold leR
  rw [← all_empty]
  generalize ((List.range n).filter fun x => !leB g (r.getD x 0) (q.getD x 0)) = zs at el ⊢
  have e0 := eq0 (zs := zs)
  simp [f_law_is_at_most, m_law_is_at_most, hl, q1, q2, el, e0]
theorem msk_low {n p : Nat} {g : Nat → Bool} (hp : p < n) (hg : g p = true) (hl : ∀ j, j < p → g j = false) : ∃ a, msk n g = 2 ^ (p + 1) * a + 2 ^ p := by
  obtain ⟨g', hg'⟩ : ∃ g' : Nat → Bool, g' = fun j => g j && decide (j ≠ p) := ⟨_, rfl⟩
  refine ⟨msk n g' >>> (p + 1), ?_⟩
  have ha : msk n g' = 2 ^ (p + 1) * (msk n g' >>> (p + 1)) := by
    apply Nat.eq_of_testBit_eq
    intro j
    rw [Nat.testBit_two_pow_mul, Nat.testBit_shiftRight, msk_bit]
    by_cases q : p + 1 ≤ j
    · rw [decide_eq_true (show j ≥ p + 1 from q), Bool.true_and, show p + 1 + (j - (p + 1)) = j by omega, msk_bit]
    · rw [decide_eq_false (show ¬ j ≥ p + 1 from q), Bool.false_and, hg']
      by_cases q2 : j = p
      · simp [q2]
      · simp [hl j (by omega)]
  apply Nat.eq_of_testBit_eq
  intro j
  rw [Nat.testBit_two_pow_mul_add _ (by rw [Nat.pow_succ]; have := Nat.two_pow_pos p; omega : 2 ^ p < 2 ^ (p + 1)), msk_bit]
  have hb : (msk n g').testBit j = (decide (j < n) && (g j && decide (j ≠ p))) := by rw [msk_bit, hg']
  by_cases q : j < p + 1
  · rw [if_pos q, Nat.testBit_two_pow]
    by_cases q2 : j = p
    · subst q2
      simp [hp, hg]
    · have z1 : g j = false := hl j (by omega)
      have z2 : ¬ p = j := fun z => q2 z.symm
      simp [z1, z2]
  · rw [if_neg q, Nat.testBit_shiftRight, show p + 1 + (j - (p + 1)) = j by omega, hb, decide_eq_true (show j ≠ p by omega), Bool.and_true]
theorem lowest_in {n p : Nat} {g : Nat → Bool} {h : MH} (hp : p < n) (hg : g p = true) (hl : ∀ j, j < p → g j = false) : f_lowest_in [.int (msk n g : Int)] h = ok (nV p) h := by
  obtain ⟨a, ha⟩ := msk_low hp hg hl
  have h0 := Nat.two_pow_pos p
  obtain ⟨m, em⟩ : ∃ m, msk n g = m := ⟨_, rfl⟩
  have e1 : Builtin.bitAnd (m : Int) (-(m : Int)) = ((2 ^ p : Nat) : Int) := by
    rw [and_neg (k := 2 ^ (p + 1) * a) (by omega) (by rw [← em, ha, low_bit])]
    omega
  have e2 := bits_pow (p := p)
  obtain ⟨t, et⟩ : ∃ t, 2 ^ p = t := ⟨_, rfl⟩
  rw [et] at e1 e2
  rw [em]
  have e4 : ((p : Int) + 1) - 1 = (p : Int) := by omega
  simp [f_lowest_in, m_lowest_in, e1, e2, e4]
theorem at_most_masks {n : Nat} {f : Nat → Nat → Bool} {h : MH} (hn : n ≤ 64) : f_at_most_masks [ordV n (prs n f)] h = ok (mkV n fun x y => f y x || decide (y = x)) h := by
  have e1 : f_low_masks [ordV n (prs n f)] h = ok (mkV n fun x y => f y x) h := k13.low_o hn
  have l1 : n ≤ lim := by unfold lim; omega
  have ee : enmOf 0 (mkL n fun x y => f y x) = (List.range n).map fun x => .tup [nV x, nV (msk n fun y => f y x)] := by
    refine List.ext_getElem? fun i => ?_
    unfold mkL tb
    rw [k13.enmOf_map, List.getElem?_map, List.getElem?_zipIdx, List.getElem?_map]
    by_cases c : i < n
    · rw [List.getElem?_range c]
      simp
    · rw [List.getElem?_eq_none (by simpa using Nat.le_of_not_lt c)]
      rfl
  have el := lcS_pure (g := unp [1, 2]) (cd := yesT) (el := opM orF (varM 2) (opM shlF (cM (.int 1)) (varM 1))) (s0 := [some (ordV n (prs n f)), none, none]) (h := h) (fun _ => true) (fun x => match x with
    | .tup [.int i, .int m] => .int ((m.toNat ||| 2 ^ i.toNat : Nat) : Int)
    | _ => .non) (xs := (List.range n).map fun x => .tup [nV x, nV (msk n fun y => f y x)]) (acc := []) (fun x hx => by
      obtain ⟨i, hi, e⟩ := List.mem_map.mp hx
      subst e
      have hi' := List.mem_range.mp hi
      refine ⟨_, rfl, rfl, fun _ => ?_⟩
      have po : powOk 1 (i : Int) := ⟨by omega, by omega, by decide⟩
      have pw := k13.pow1 (y := i)
      generalize hm : msk n (fun y => f y i) = m
      generalize ht : 2 ^ i = t at pw
      simp [po, pw, bitOr_nat, ht]) (by simpa using l1)
  have e3 : ((List.range n).map fun x => MV.tup [nV x, nV (msk n fun y => f y x)]).filter (fun _ => true) = (List.range n).map fun x => .tup [nV x, nV (msk n fun y => f y x)] := List.filter_eq_self.mpr fun _ _ => rfl
  rw [e3, List.nil_append, List.map_map] at el
  have e4 : ((List.range n).map ((fun x : MV => match x with
    | .tup [.int i, .int m] => .int ((m.toNat ||| 2 ^ i.toNat : Nat) : Int)
    | _ => .non) ∘ fun x => MV.tup [nV x, nV (msk n fun y => f y x)])) = mkL n fun x y => f y x || decide (y = x) := by
    refine List.map_congr_left fun x hx => ?_
    have hx' := List.mem_range.mp hx
    show MV.int (((msk n (fun y => f y x) : Int).toNat ||| 2 ^ ((x : Nat) : Int).toNat : Nat) : Int) = nV (msk n fun y => f y x || decide (y = x))
    rw [Int.toNat_natCast, Int.toNat_natCast, msk_one hx']
  rw [e4] at el
  have st : stOf (MV.tup (mkL n fun x y => f y x)) = some (mkL n fun x y => f y x) := rfl
  unfold mkV at e1
  simp [f_at_most_masks, m_at_most_masks, e1, st, ee, el, mkV]
theorem top_of {n : Nat} {f : Nat → Nat → Bool} {d : Nat → Bool} {h : MH} (hn : n ≤ 64) : f_top_of [.int (msk n d : Int), mkV n f] h = ok (match (fib n d).find? fun x => (fib n d).all fun b => !f x b with
    | some x => nV x
    | none => .non) h := by
  have e1 : f_points_in [.int (msk n d : Int)] h = ok (.tup ((fib n d).map nV)) h := k13.points_in hn
  have lp := for_find (bd := turnM (one 2) b1_top_of) (f := nV) (s := [some (nV (msk n d)), some (mkV n f), none]) (h := h) (fun x => (fib n d).all fun b => !f x b) nV (xs := fib n d) fun x hx => by
    have hx' := (fib_mem.mp hx).1
    have g1 := k13.mkL_get (g := f) hx'
    have e2 : decide (msk n (f x) &&& msk n d = 0) = (fib n d).all fun b => !f x b := by
      rw [Bool.eq_iff_iff, decide_eq_true_iff, msk_and, msk_zero, List.all_eq_true]
      constructor
      · intro k b hb
        obtain ⟨b1, b2⟩ := fib_mem.mp hb
        have := k b b1
        rw [b2, Bool.and_true] at this
        rw [this]
        rfl
      · intro k j hj
        cases c : d j with
        | false => rw [Bool.and_false]
        | true =>
          have := k j (fib_mem.mpr ⟨hj, c⟩)
          rw [Bool.and_true]
          simpa using this
    rw [← e2]
    generalize msk n (f x) = a at *
    generalize msk n d = b at *
    have e3 : eqB (.int ((a &&& b : Nat) : Int)) (.int 0) = some (decide (a &&& b = 0)) := by
      show some (decide (((a &&& b : Nat) : Int) = 0)) = _
      congr 1
      rw [Bool.eq_iff_iff, decide_eq_true_iff, decide_eq_true_iff]
      omega
    by_cases c : a &&& b = 0
    · have e30 : eqB (.int 0) (.int 0) = some true := rfl
      simp [b1_top_of, mkV, atI_n, g1, bitAnd_nat, e30, c]
    · rw [decide_eq_false c] at e3
      simp [b1_top_of, mkV, atI_n, g1, bitAnd_nat, e3, c]
  generalize msk n d = b at *
  generalize hres : (fib n d).find? (fun x => (fib n d).all fun b => !f x b) = res at lp ⊢
  cases res with
  | none => simp [f_top_of, m_top_of, e1, lp]
  | some x => simp [f_top_of, m_top_of, e1, lp]
end Mi.k14
set_option maxHeartbeats 4000000
namespace Mi.k14
open PySem L2
open Mi.k13 (St Ow owV Ri mkL mkV cov mem In)
/-! ### the plain law -/
def nxt (m : Nat) (g : Nat → Nat → Bool) (a t : Nat) : Nat := match (List.range m).find? fun v => leB g v t && cov m g a v with
  | some v => v
  | none => t
theorem cov_lt {m a v : Nat} {g : Nat → Nat → Bool} (h : cov m g a v = true) : g a v = true := by
  unfold cov at h
  rw [Bool.and_eq_true] at h
  exact h.1
/-- there is a next value -/
theorem nxt_ex {m : Nat} {g : Nat → Nat → Bool} (o : SOrd m g) {a t : Nat} (h : g a t = true) : ∃ v, v < m ∧ leB g v t = true ∧ cov m g a v = true := by
  obtain ⟨ρ, hρ⟩ := o.rk
  have key : ∀ k v, ρ v ≤ k → g a v = true → leB g v t = true → ∃ v, v < m ∧ leB g v t = true ∧ cov m g a v = true := by
    intro k
    induction k with
    | zero =>
      intro v hk hv hl
      have := hρ a v hv
      omega
    | succ k ih =>
      intro v hk hv hl
      by_cases c : ∃ z, g a z = true ∧ g z v = true
      · obtain ⟨z, z1, z2⟩ := c
        have := hρ z v z2
        refine ih z (by omega) z1 (leB_tr o ?_ hl)
        unfold leB
        rw [z2, Bool.or_true]
      · refine ⟨v, (o.lt _ _ hv).2, hl, ?_⟩
        unfold cov
        rw [hv, Bool.true_and, List.all_eq_true]
        intro z _
        cases z1 : g a z with
        | false => rfl
        | true =>
          cases z2 : g z v with
          | false => rfl
          | true => exact absurd ⟨z, z1, z2⟩ c
  exact key (ρ t) t (Nat.le_refl _) h leB_refl
theorem nxt_is {m : Nat} {g : Nat → Nat → Bool} (o : SOrd m g) {a t : Nat} (h : g a t = true) : nxt m g a t < m ∧ leB g (nxt m g a t) t = true ∧ cov m g a (nxt m g a t) = true ∧ (∀ j, j < nxt m g a t → (leB g j t && cov m g a j) = false) := by
  obtain ⟨v, h1, h2, h3⟩ := nxt_ex o h
  unfold nxt
  cases e : (List.range m).find? fun v => leB g v t && cov m g a v with
  | none =>
    have := List.find?_eq_none.mp e v (List.mem_range.mpr h1)
    rw [h2, h3] at this
    exact absurd rfl this
  | some w =>
    have w1 := List.find?_some e
    have w2 := List.mem_range.mp (List.mem_of_find?_eq_some e)
    rw [Bool.and_eq_true] at w1
    refine ⟨w2, w1.1, w1.2, fun j hj => ?_⟩
    have hj' : j < w := hj
    obtain ⟨_, i, hi, e2, e3⟩ := List.find?_eq_some_iff_getElem.mp e
    rw [List.getElem_range] at e2
    subst e2
    have t3 : (!(leB g j t && cov m g a j)) = true := by
      have := e3 j hj'
      rw [List.getElem_range] at this
      exact this
    cases c : (leB g j t && cov m g a j) with
    | false => rfl
    | true =>
      rw [c] at t3
      cases t3
/-- what lies above a and at most t -/
def mu (m : Nat) (g : Nat → Nat → Bool) (a t : Nat) : Nat := ((List.range m).filter fun v => g a v && leB g v t).length
theorem mu_le {m : Nat} {g : Nat → Nat → Bool} {a t : Nat} : mu m g a t ≤ m := Nat.le_trans (List.length_filter_le _ _) (by simp)
theorem len_lt {α : Type} {p q : α → Bool} : ∀ {xs : List α}, (∀ x ∈ xs, p x = true → q x = true) → (∃ x ∈ xs, q x = true ∧ p x = false) → (xs.filter p).length < (xs.filter q).length
  | [], _, ⟨x, hx, _⟩ => nomatch hx
  | y :: ys, h1, ⟨x, hx, h2, h3⟩ => by
    have le : (ys.filter p).length ≤ (ys.filter q).length := by
      clear h2 h3 hx
      have h1' : ∀ x ∈ ys, p x = true → q x = true := fun x hx => h1 x (List.mem_cons_of_mem _ hx)
      clear h1
      induction ys with
      | nil => exact Nat.le_refl _
      | cons z zs ih =>
        have ih := ih fun x hx => h1' x (List.mem_cons_of_mem _ hx)
        have hz := h1' z (List.mem_cons_self ..)
        rw [List.filter_cons, List.filter_cons]
        cases c : p z with
        | true =>
          rw [hz c]
          simp
          exact ih
        | false =>
          cases q z <;> simp <;> omega
    rw [List.filter_cons, List.filter_cons]
    rcases List.mem_cons.mp hx with e | e
    · subst e
      rw [h2, h3]
      simp
      omega
    · have ih := len_lt (xs := ys) (fun x hx => h1 x (List.mem_cons_of_mem _ hx)) ⟨x, e, h2, h3⟩
      have hy := h1 y (List.mem_cons_self ..)
      cases c : p y with
      | true =>
        rw [hy c]
        simp
        exact ih
      | false =>
        cases q y <;> simp <;> omega
theorem mu_lt {m : Nat} {g : Nat → Nat → Bool} (o : SOrd m g) {a t : Nat} (h : g a t = true) : mu m g (nxt m g a t) t < mu m g a t := by
  obtain ⟨h1, h2, h3, _⟩ := nxt_is o h
  have h4 := cov_lt h3
  refine len_lt (fun x _ hx => ?_) ⟨nxt m g a t, List.mem_range.mpr h1, ?_, ?_⟩
  · rw [Bool.and_eq_true] at hx ⊢
    exact ⟨o.tr _ _ _ h4 hx.1, hx.2⟩
  · rw [h4, h2]
    rfl
  · rw [o.irr]
    rfl
/-- the values on the way from a to t -/
def climb (m : Nat) (g : Nat → Nat → Bool) : Nat → Nat → Nat → List Nat
  | 0, _, _ => []
  | k + 1, a, t => if a = t then [] else nxt m g a t :: climb m g k (nxt m g a t) t
theorem climb_len {m : Nat} {g : Nat → Nat → Bool} : ∀ {k a t : Nat}, (climb m g k a t).length ≤ k
  | 0, _, _ => Nat.le_refl _
  | k + 1, a, t => by
    unfold climb
    split
    · exact Nat.zero_le _
    · exact Nat.succ_le_succ climb_len
theorem climb_lt {m : Nat} {g : Nat → Nat → Bool} (o : SOrd m g) : ∀ {k a t : Nat}, leB g a t = true → ∀ v ∈ climb m g k a t, v < m
  | 0, _, _, _, v, hv => nomatch hv
  | k + 1, a, t, h, v, hv => by
    unfold climb at hv
    by_cases c : a = t
    · rw [if_pos c] at hv
      cases hv
    · rw [if_neg c] at hv
      have hg : g a t = true := by
        unfold leB at h
        rw [Bool.or_eq_true, beq_iff_eq] at h
        exact h.resolve_left c
      obtain ⟨h1, h2, h3, _⟩ := nxt_is o hg
      rcases List.mem_cons.mp hv with e | e
      · rw [e]
        exact h1
      · exact climb_lt o h2 v e
/-- the least point of the set d without one of it above it -/
def top? (n : Nat) (f : Nat → Nat → Bool) (d : Nat → Bool) : Option Nat := (fib n d).find? fun x => (fib n d).all fun b => !f x b
theorem top_ex {n : Nat} {f : Nat → Nat → Bool} (o : SOrd n f) {d : Nat → Bool} (h : ∃ x, x < n ∧ d x = true) : ∃ x, top? n f d = some x ∧ x < n ∧ d x = true := by
  obtain ⟨ρ, hρ⟩ := o.rk
  -- ranks are bounded
  obtain ⟨B, hB⟩ : ∃ B, ∀ x, x < n → ρ x ≤ B := by
    clear h hρ
    induction n with
    | zero => exact ⟨0, fun x z => absurd z (Nat.not_lt_zero _)⟩
    | succ n _ =>
      have : ∀ k, ∃ B, ∀ x, x < k → ρ x ≤ B := fun k => by
        induction k with
        | zero => exact ⟨0, fun x z => absurd z (Nat.not_lt_zero _)⟩
        | succ k ih =>
          obtain ⟨B, hB⟩ := ih
          exact ⟨max B (ρ k), fun x hx => by
            rcases Nat.lt_succ_iff_lt_or_eq.mp hx with z | z
            · exact Nat.le_trans (hB x z) (Nat.le_max_left ..)
            · rw [z]
              exact Nat.le_max_right ..⟩
      exact this (n + 1)
  have key : ∀ k x, B - ρ x ≤ k → x < n → d x = true → ∃ y, y < n ∧ d y = true ∧ ∀ b, b < n → d b = true → f y b = false := by
    intro k
    induction k with
    | zero =>
      intro x hk hx hd
      refine ⟨x, hx, hd, fun b hb hdb => ?_⟩
      cases c : f x b with
      | false => rfl
      | true =>
        have := hρ x b c
        have := hB b hb
        have := hB x hx
        omega
    | succ k ih =>
      intro x hk hx hd
      by_cases c : ∃ b, b < n ∧ d b = true ∧ f x b = true
      · obtain ⟨b, b1, b2, b3⟩ := c
        have := hρ x b b3
        have := hB b b1
        exact ih b (by omega) b1 b2
      · refine ⟨x, hx, hd, fun b hb hdb => ?_⟩
        cases c2 : f x b with
        | false => rfl
        | true => exact absurd ⟨b, hb, hdb, c2⟩ c
  obtain ⟨x, hx, hd⟩ := h
  obtain ⟨y, y1, y2, y3⟩ := key _ x (Nat.le_refl _) hx hd
  unfold top?
  cases e : (fib n d).find? fun x => (fib n d).all fun b => !f x b with
  | none =>
    have := List.find?_eq_none.mp e y (fib_mem.mpr ⟨y1, y2⟩)
    refine absurd ?_ this
    rw [List.all_eq_true]
    intro b hb
    obtain ⟨b1, b2⟩ := fib_mem.mp hb
    rw [y3 b b1 b2]
    rfl
  | some w =>
    obtain ⟨w1, w2⟩ := fib_mem.mp (List.mem_of_find?_eq_some e)
    exact ⟨w, rfl, w1, w2⟩
/-- a point less -/
def rem (d : Nat → Bool) (x : Nat) : Nat → Bool := fun j => d j && decide (j ≠ x)
theorem msk_sub {x : Nat} : ∀ {n : Nat} {d : Nat → Bool}, x < n → d x = true → msk n d = msk n (rem d x) + 2 ^ x
  | n + 1, d, hx, hd => by
    unfold msk
    by_cases c : x = n
    · subst c
      have e : msk x (rem d x) = msk x d := msk_congr fun j hj => by
        unfold rem
        rw [decide_eq_true (show j ≠ x by omega), Bool.and_true]
      have e2 : rem d x x = false := by
        unfold rem
        simp
      rw [hd, if_pos rfl, e, e2, if_neg Bool.false_ne_true]
      omega
    · have ih := msk_sub (x := x) (n := n) (d := d) (by omega) hd
      have e2 : rem d x n = d n := by
        unfold rem
        rw [decide_eq_true (show n ≠ x by omega), Bool.and_true]
      rw [ih, e2]
      omega
theorem fib_rem {n x : Nat} {d : Nat → Bool} : fib n (rem d x) = (fib n d).filter fun j => decide (j ≠ x) := by
  unfold fib
  rw [List.filter_filter]
  refine List.filter_congr fun j _ => ?_
  unfold rem
  rw [Bool.and_comm]
theorem fib_nd {n : Nat} {d : Nat → Bool} : (fib n d).Nodup := by
  unfold fib
  exact List.Pairwise.filter _ List.nodup_range
theorem erase_nd {x : Nat} : ∀ {xs : List Nat}, xs.Nodup → x ∈ xs → xs.eraseIdx (xs.idxOf x) = xs.filter fun j => decide (j ≠ x)
  | y :: ys, hd, hx => by
    obtain ⟨h1, h2⟩ := List.nodup_cons.mp hd
    rw [List.idxOf_cons]
    by_cases c : y = x
    · subst c
      rw [beq_self_eq_true]
      simp only [cond_true, List.eraseIdx_cons_zero]
      rw [List.filter_cons_of_neg (by simp)]
      exact (List.filter_eq_self.mpr fun j hj => decide_eq_true (show j ≠ y from fun z => h1 (by rw [← z]; exact hj))).symm
    · rw [beq_eq_false_iff_ne.mpr c]
      simp only [cond_false, List.eraseIdx_cons_succ]
      rw [List.filter_cons_of_pos (by simp [c]), erase_nd h2 ((List.mem_cons.mp hx).resolve_left fun z => c z.symm)]
theorem rem_len {n x : Nat} {d : Nat → Bool} (hx : x < n) (hd : d x = true) : (fib n (rem d x)).length + 1 = (fib n d).length := by
  have hm : x ∈ fib n d := fib_mem.mpr ⟨hx, hd⟩
  rw [fib_rem, ← erase_nd fib_nd hm, List.length_eraseIdx_of_lt (List.idxOf_lt_length_of_mem hm)]
  have := List.length_pos_of_mem hm
  omega
/-- all steps -/
def ups (n m : Nat) (f g : Nat → Nat → Bool) (r q : List Nat) : Nat → (Nat → Bool) → List (Nat × Nat)
  | 0, _ => []
  | k + 1, d => match top? n f d with
    | none => []
    | some x => (climb m g m (r.getD x 0) (q.getD x 0)).map (fun v => (x, v)) ++ ups n m f g r q k (rem d x)
theorem ups_len {n m : Nat} {f g : Nat → Nat → Bool} {r q : List Nat} : ∀ {k : Nat} {d : Nat → Bool}, (ups n m f g r q k d).length ≤ k * m
  | 0, _ => by simp [ups]
  | k + 1, d => by
    unfold ups
    cases top? n f d with
    | none => exact Nat.zero_le _
    | some x =>
      have := climb_len (m := m) (g := g) (k := m) (a := r.getD x 0) (t := q.getD x 0)
      have := ups_len (n := n) (m := m) (f := f) (g := g) (r := r) (q := q) (k := k) (d := rem d x)
      rw [Nat.succ_mul, List.length_append, List.length_map]
      omega
/-- the points in which they differ -/
def dif (r q : List Nat) : Nat → Bool := fun x => decide (r.getD x 0 ≠ q.getD x 0)
def upS (n m : Nat) (f g : Nat → Nat → Bool) (r q : List Nat) : List (Nat × Nat) := ups n m f g r q (fib n (dif r q)).length (dif r q)
theorem leR_iff {n : Nat} {g : Nat → Nat → Bool} {r q : List Nat} : leR n g r q = true ↔ ∀ x, x < n → leB g (r.getD x 0) (q.getD x 0) = true := by
  unfold leR
  rw [List.all_eq_true]
  simp
end Mi.k14
set_option maxHeartbeats 4000000
namespace Mi.k14
open PySem L2
open Mi.k13 (St Ow owV Ri mkL mkV cov mem In rowT)
/-! ### steps_up -/
def sU (n m : Nat) (f g : Nat → Nat → Bool) (r q : List Nat) (p : Nat) (d : Nat → Bool) : MS := [some (ordV n (prs n f)), some (ordV m (prs m g)), some (rowT r), some (rowT q), some (mkV n f), some (mkV m (cov m g)), some (mkV m fun x y => g y x || decide (y = x)), some (.ref p), some (nV (msk n d)), none, none, some (.ref (p + 1))]
def hU (h : MH) (w : List Nat) (acc : List (Nat × Nat)) : MH := h ++ [.lst (w.map nV), .lst (acc.map prV)]
theorem hU_0 {h : MH} {w : List Nat} {acc : List (Nat × Nat)} {p : Nat} (hp : p = h.length) : (hU h w acc)[p]? = some (.lst (w.map nV)) := by
  unfold hU
  rw [ga0 hp.symm]
  rfl
theorem hU_1 {h : MH} {w : List Nat} {acc : List (Nat × Nat)} {p : Nat} (hp : p = h.length) : (hU h w acc)[p + 1]? = some (.lst (acc.map prV)) := by
  unfold hU
  rw [ga hp.symm]
  rfl
theorem hU_s0 {h : MH} {w w2 : List Nat} {acc : List (Nat × Nat)} {p : Nat} (hp : p = h.length) : (hU h w acc).set p (.lst (w2.map nV)) = hU h w2 acc := by
  unfold hU
  rw [sa0 hp.symm]
  rfl
theorem hU_s1 {h : MH} {w : List Nat} {acc acc2 : List (Nat × Nat)} {p : Nat} (hp : p = h.length) : (hU h w acc).set (p + 1) (.lst (acc2.map prV)) = hU h w acc2 := by
  unfold hU
  rw [sa hp.symm]
  rfl
/-- a turn: the top x, now at a, goes on to v -/
theorem up_turn {n m p x a : Nat} {f g : Nat → Nat → Bool} {r q w : List Nat} {d : Nat → Bool} {acc : List (Nat × Nat)} {h : MH} (hn : n ≤ 64) (hm : m ≤ 64) (o2 : SOrd m g) (hq : Mp n m q) (hw : w.length = n) (hp : p = h.length) (ht : top? n f d = some x) (ha : w[x]? = some a) (hg : g a (q.getD x 0) = true) (hacc : acc.length ≤ 5000) :
    b2_steps_up (sU n m f g r q p d) (hU h w acc) = some (.nx (sU n m f g r q p (if nxt m g a (q.getD x 0) = q.getD x 0 then rem d x else d)) (hU h (w.set x (nxt m g a (q.getD x 0))) (acc ++ [(x, nxt m g a (q.getD x 0))]))) := by
  have hx : x < n ∧ d x = true := fib_mem.mp (List.mem_of_find?_eq_some ht)
  obtain ⟨t, hqt, htm⟩ := hq.at hx.1
  rw [row_at hqt] at hg ⊢
  obtain ⟨n1, n2, n3, n4⟩ := nxt_is o2 hg
  have ham : a < m := (o2.lt _ _ hg).1
  obtain ⟨v, hv⟩ : ∃ v, v = nxt m g a t := ⟨_, rfl⟩
  rw [← hv] at n1 n2 n3 n4 ⊢
  have hxw : x < w.length := by rw [hw]; exact hx.1
  have et : f_top_of [.int (msk n d : Int), mkV n f] (hU h w acc) = ok (nV x) (hU h w acc) := by
    have := top_of (f := f) (d := d) (h := hU h w acc) hn
    unfold top? at ht
    rw [ht] at this
    exact this
  have g1 := k13.mkL_get (g := cov m g) ham
  have g2 := k13.mkL_get (g := fun x y => g y x || decide (y = x)) htm
  have lo := lowest_in (n := m) (p := v) (g := fun j => cov m g a j && (g j t || decide (j = t))) (h := hU h w acc) n1 (by
    unfold leB at n2
    rw [Bool.or_eq_true, beq_iff_eq] at n2
    rw [n3, Bool.true_and, Bool.or_eq_true, decide_eq_true_iff]
    exact n2.symm) fun j hj => by
      have := n4 j hj
      unfold leB at this
      rw [← this, Bool.and_comm]
      congr 1
      rw [Bool.or_comm]
      congr 1
  rw [← msk_and] at lo
  have a0 := hU_0 (w := w) (acc := acc) hp
  have a1 := hU_1 (w := w) (acc := acc) hp
  have b0 := hU_0 (w := w.set x v) (acc := acc) hp
  have b1 := hU_1 (w := w.set x v) (acc := acc) hp
  have c0 := hU_0 (w := w.set x v) (acc := acc ++ [(x, v)]) hp
  have s0 := hU_s0 (w := w) (w2 := w.set x v) (acc := acc) hp
  have s1 := hU_s1 (w := w.set x v) (acc := acc) (acc2 := acc ++ [(x, v)]) hp
  have wv : (w.set x v)[x]? = some v := List.getElem?_set_self hxw
  have la : acc.length < lim := by unfold lim; omega
  have l2 : 2 ≤ lim := by unfold lim; omega
  have sub := msk_sub hx.1 hx.2
  have po : powOk 1 (x : Int) := ⟨by omega, by omega, by decide⟩
  have pw := k13.pow1 (y := x)
  -- step by step
  unfold b2_steps_up wipT
  have u1 : setS 9 (callM f_top_of [] (consA (varM 8) (consA (varM 4) nilA))) (sU n m f g r q p d) (hU h w acc) = some (.nx ((sU n m f g r q p d).set 9 (some (nV x))) (hU h w acc)) := by
    refine setS_ok (callM_ok (xs := [.int (msk n d : Int), mkV n f]) ?_ et)
    simp [sU]
  rw [seq_nx u1]
  have wix : ixF (.ref p) (nV x) (hU h w acc) = ok (nV a) (hU h w acc) := by
    simp [a0, atI_n, ha]
  have u2 : subS (callM f_lowest_in [] (consA (opM andF (opM ixF (varM 5) (opM ixF (varM 7) (varM 9))) (opM ixF (varM 6) (opM ixF (varM 3) (varM 9)))) nilA)) (varM 7) (varM 9) ((sU n m f g r q p d).set 9 (some (nV x))) (hU h w acc) = some (.nx ((sU n m f g r q p d).set 9 (some (nV x))) (hU h (w.set x v) acc)) := by
    have A : consA (opM andF (opM ixF (varM 5) (opM ixF (varM 7) (varM 9))) (opM ixF (varM 6) (opM ixF (varM 3) (varM 9)))) nilA ((sU n m f g r q p d).set 9 (some (nV x))) (hU h w acc) = ok [.int ((msk m (cov m g a) &&& msk m fun j => g j t || decide (j = t) : Nat) : Int)] (hU h w acc) := by
      generalize msk m (cov m g a) = k1 at *
      generalize (msk m fun j => g j t || decide (j = t)) = k2 at *
      generalize hA1 : mkL m (cov m g) = A1 at *
      generalize hA2 : mkL m (fun x y => g y x || decide (y = x)) = A2 at *
      have i5 : ixF (mkV m (cov m g)) (nV a) (hU h w acc) = ok (.int (k1 : Int)) (hU h w acc) := by simp [mkV, hA1, atI_n, g1]
      have i6 : ixF (mkV m fun x y => g y x || decide (y = x)) (nV t) (hU h w acc) = ok (.int (k2 : Int)) (hU h w acc) := by simp [mkV, hA2, atI_n, g2]
      have i3 : ixF (rowT q) (nV x) (hU h w acc) = ok (nV t) (hU h w acc) := by simp [atI_n, hqt]
      have j7 : opM ixF (varM 7) (varM 9) ((sU n m f g r q p d).set 9 (some (nV x))) (hU h w acc) = ok (nV a) (hU h w acc) := wix
      have j3 : opM ixF (varM 3) (varM 9) ((sU n m f g r q p d).set 9 (some (nV x))) (hU h w acc) = ok (nV t) (hU h w acc) := i3
      have j5 : opM ixF (varM 5) (opM ixF (varM 7) (varM 9)) ((sU n m f g r q p d).set 9 (some (nV x))) (hU h w acc) = ok (.int (k1 : Int)) (hU h w acc) := (k13.opM_is (x := mkV m (cov m g)) rfl j7).trans i5
      have j6 : opM ixF (varM 6) (opM ixF (varM 3) (varM 9)) ((sU n m f g r q p d).set 9 (some (nV x))) (hU h w acc) = ok (.int (k2 : Int)) (hU h w acc) := (k13.opM_is (x := mkV m fun x y => g y x || decide (y = x)) rfl j3).trans i6
      refine k13.consA_1 ((k13.opM_is j5 j6).trans ?_)
      show ok (MV.int (Builtin.bitAnd (k1 : Int) (k2 : Int))) _ = _
      rw [bitAnd_nat]
    have ew : (w.map nV).set x (nV v) = (w.set x v).map nV := by rw [List.map_set]
    rw [← ew] at s0
    have hix : ixN (w.map nV).length (x : Int) = some x := by rw [List.length_map, ixN_n, if_pos hxw]
    unfold subS
    rw [callM_ok (f := f_lowest_in) (ds := []) A lo, bndS_ok]
    have v7 : varM 7 ((sU n m f g r q p d).set 9 (some (nV x))) (hU h w acc) = ok (.ref p) (hU h w acc) := rfl
    have v9 : varM 9 ((sU n m f g r q p d).set 9 (some (nV x))) (hU h w acc) = ok (nV x) (hU h w acc) := rfl
    rw [v7, bndS_ok, v9, bndS_ok]
    simp only [wrF, a0, hix, s0]
  rw [seq_nx u2]
  have wix2 : ixF (.ref p) (nV x) (hU h (w.set x v) acc) = ok (nV v) (hU h (w.set x v) acc) := by
    have : ((w.set x v).map nV)[x]? = some (nV v) := by rw [List.getElem?_map, wv]; rfl
    generalize (w.set x v).map nV = W at b0 this
    simp [b0, atI_n, this]
  have u3 : dropS (mthM appF (varM 11) (consA (tupM (consA (varM 9) (consA (opM ixF (varM 7) (varM 9)) nilA))) nilA)) ((sU n m f g r q p d).set 9 (some (nV x))) (hU h (w.set x v) acc) = some (.nx ((sU n m f g r q p d).set 9 (some (nV x))) (hU h (w.set x v) (acc ++ [(x, v)]))) := by
    have A : tupM (consA (varM 9) (consA (opM ixF (varM 7) (varM 9)) nilA)) ((sU n m f g r q p d).set 9 (some (nV x))) (hU h (w.set x v) acc) = ok (prV (x, v)) (hU h (w.set x v) acc) := tupM_ok (consA_ok rfl (consA_ok (show opM ixF (varM 7) (varM 9) _ _ = ok (nV v) _ from wix2) rfl)) (by simp)
    have il : isL (hU h (w.set x v) acc) (.ref (p + 1)) = true := by simp [b1]
    have s1' : (hU h (w.set x v) acc).set (p + 1) (.lst (acc.map prV ++ [prV (x, v)])) = hU h (w.set x v) (acc ++ [(x, v)]) := by
      rw [← s1]
      simp
    unfold dropS mthM
    have v11 : varM 11 ((sU n m f g r q p d).set 9 (some (nV x))) (hU h (w.set x v) acc) = ok (.ref (p + 1)) (hU h (w.set x v) acc) := rfl
    rw [v11, bnd_ok, if_pos il, consA_ok A rfl, bnd_ok]
    simp only [appF, b1, List.length_map, if_pos la, bndS_ok, s1']
  rw [seq_nx u3]
  have wix3 : ixF (.ref p) (nV x) (hU h (w.set x v) (acc ++ [(x, v)])) = ok (nV v) (hU h (w.set x v) (acc ++ [(x, v)])) := by
    have : ((w.set x v).map nV)[x]? = some (nV v) := by rw [List.getElem?_map, wv]; rfl
    generalize (w.set x v).map nV = W at c0 this
    simp [c0, atI_n, this]
  have qix : ixF (rowT q) (nV x) (hU h (w.set x v) (acc ++ [(x, v)])) = ok (nV t) (hU h (w.set x v) (acc ++ [(x, v)])) := by simp [atI_n, hqt]
  have tq : tstM (opM eqF (opM ixF (varM 7) (varM 9)) (opM ixF (varM 3) (varM 9))) ((sU n m f g r q p d).set 9 (some (nV x))) (hU h (w.set x v) (acc ++ [(x, v)])) = ok (decide (v = t)) (hU h (w.set x v) (acc ++ [(x, v)])) := by
    have e1 : opM ixF (varM 7) (varM 9) ((sU n m f g r q p d).set 9 (some (nV x))) (hU h (w.set x v) (acc ++ [(x, v)])) = ok (nV v) (hU h (w.set x v) (acc ++ [(x, v)])) := wix3
    have e2 : opM ixF (varM 3) (varM 9) ((sU n m f g r q p d).set 9 (some (nV x))) (hU h (w.set x v) (acc ++ [(x, v)])) = ok (nV t) (hU h (w.set x v) (acc ++ [(x, v)])) := qix
    have e3 : eqB (nV v) (nV t) = some (decide (v = t)) := by
      show some (decide ((v : Int) = (t : Int))) = _
      congr 1
      rw [Bool.eq_iff_iff, decide_eq_true_iff, decide_eq_true_iff]
      omega
    unfold tstM
    have e4 : opM eqF (opM ixF (varM 7) (varM 9)) (opM ixF (varM 3) (varM 9)) ((sU n m f g r q p d).set 9 (some (nV x))) (hU h (w.set x v) (acc ++ [(x, v)])) = ok (.bl (decide (v = t))) (hU h (w.set x v) (acc ++ [(x, v)])) := by
      rw [show opM eqF (opM ixF (varM 7) (varM 9)) (opM ixF (varM 3) (varM 9)) ((sU n m f g r q p d).set 9 (some (nV x))) (hU h (w.set x v) (acc ++ [(x, v)])) = _ from k13.opM_is e1 e2]
      unfold eqF
      rw [e3]
    rw [e4]
    rfl
  by_cases c : v = t
  · rw [decide_eq_true c] at tq
    rw [ifS_t tq, if_pos c]
    have e5 : opM subF (varM 8) (opM shlF (cM (.int 1)) (varM 9)) ((sU n m f g r q p d).set 9 (some (nV x))) (hU h (w.set x v) (acc ++ [(x, v)])) = ok (nV (msk n (rem d x))) (hU h (w.set x v) (acc ++ [(x, v)])) := by
      generalize hU h (w.set x v) (acc ++ [(x, v)]) = HH
      generalize hk1 : msk n d = k1 at *
      generalize hk2 : msk n (rem d x) = k2 at *
      generalize hk3 : 2 ^ x = k3 at sub pw
      have : (k1 : Int) - (k3 : Int) = (k2 : Int) := by omega
      simp [sU, hk1, po, pw, this]
    rw [setS_ok e5]
    rfl
  · rw [decide_eq_false c] at tq
    rw [ifS_f tq, if_neg c]
    rfl
end Mi.k14
set_option maxHeartbeats 4000000
namespace Mi.k14
open PySem L2
open Mi.k13 (St Ow owV Ri mkL mkV cov mem In rowT)
theorem msk_ne {n x : Nat} {d : Nat → Bool} (hx : x < n) (hd : d x = true) : msk n d ≠ 0 := fun z => by
  have := msk_zero.mp z x hx
  rw [hd] at this
  cases this
theorem tru8 {n m p : Nat} {f g : Nat → Nat → Bool} {r q : List Nat} {d : Nat → Bool} {h : MH} : truM (varM 8) (sU n m f g r q p d) h = ok (decide (msk n d ≠ 0)) h := by
  generalize hk : msk n d = k
  have : (((k : Nat) : Int) != 0) = decide (k ≠ 0) := by
    rw [Bool.eq_iff_iff, bne_iff_ne, decide_eq_true_iff]
    omega
  simp [sU, hk]
  rw [this]
  simp
theorem whl_t {cd : MM Bool} {bd : MT} {k : Nat} {s s1 : MS} {h h1 : MH} (e : cd s h = ok true h) (e1 : bd s h = some (.nx s1 h1)) : whlG cd bd (k + 1) s h = whlG cd bd k s1 h1 := by
  rw [whlG, e, bndS_ok, if_pos rfl, e1]
theorem whl_f {cd : MM Bool} {bd : MT} {k : Nat} {s : MS} {h : MH} (e : cd s h = ok false h) : whlG cd bd (k + 1) s h = some (.nx s h) := by
  rw [whlG, e, bndS_ok, if_neg Bool.false_ne_true]
theorem climb_0 {m k t : Nat} {g : Nat → Nat → Bool} : climb m g k t t = [] := by
  cases k with
  | zero => rfl
  | succ k =>
    unfold climb
    rw [if_pos rfl]
theorem leB_ne {g : Nat → Nat → Bool} {a t : Nat} (h : leB g a t = true) (c : a ≠ t) : g a t = true := by
  unfold leB at h
  rw [Bool.or_eq_true, beq_iff_eq] at h
  exact h.resolve_left c
/-- x goes up to t -/
theorem prog_climb {n m p x t F : Nat} {f g : Nat → Nat → Bool} {r q : List Nat} {d : Nat → Bool} {h : MH} (hn : n ≤ 64) (hm : m ≤ 64) (o2 : SOrd m g) (hq : Mp n m q) (hp : p = h.length) (ht : top? n f d = some x) (hqt : q[x]? = some t) : ∀ (k a : Nat) (w : List Nat) (acc : List (Nat × Nat)), mu m g a t ≤ k → leB g a t = true → a ≠ t → w.length = n → w[x]? = some a → acc.length + (climb m g k a t).length ≤ 5000 →
    whlG (truM (varM 8)) b2_steps_up (F + (climb m g k a t).length) (sU n m f g r q p d) (hU h w acc) = whlG (truM (varM 8)) b2_steps_up F (sU n m f g r q p (rem d x)) (hU h (w.set x t) (acc ++ (climb m g k a t).map fun v => (x, v))) := by
  have hx : x < n ∧ d x = true := fib_mem.mp (List.mem_of_find?_eq_some ht)
  intro k
  induction k with
  | zero =>
    intro a w acc h1 h2 h3 _ _ _
    have := mu_lt o2 (leB_ne h2 h3)
    omega
  | succ k ih =>
    intro a w acc h1 h2 h3 h4 h5 h6
    have hg := leB_ne h2 h3
    obtain ⟨n1, n2, n3, _⟩ := nxt_is o2 hg
    have hmu := mu_lt o2 hg
    have ec : climb m g (k + 1) a t = nxt m g a t :: climb m g k (nxt m g a t) t := by
      rw [climb, if_neg h3]
    rw [ec] at h6 ⊢
    rw [List.length_cons] at h6
    have e := up_turn (r := r) (f := f) (d := d) (acc := acc) (h := h) hn hm o2 hq h4 hp ht h5 (by rw [row_at hqt]; exact hg) (by omega)
    rw [row_at hqt] at e
    have tt : truM (varM 8) (sU n m f g r q p d) (hU h w acc) = ok true (hU h w acc) := by
      rw [tru8, decide_eq_true (msk_ne hx.1 hx.2)]
    rw [List.length_cons, ← Nat.add_assoc, whl_t tt e]
    by_cases c : nxt m g a t = t
    · rw [if_pos c, c, climb_0]
      rfl
    · rw [if_neg c]
      have hxw : x < w.length := by rw [h4]; exact hx.1
      have ih' := ih (nxt m g a t) (w.set x (nxt m g a t)) (acc ++ [(x, nxt m g a t)]) (by omega) n2 c (by rw [List.length_set]; exact h4) (List.getElem?_set_self hxw) (by rw [List.length_append]; show acc.length + 1 + _ ≤ _; omega)
      rw [ih', List.set_set, List.map_cons, List.append_assoc]
      rfl
theorem prog_all {n m p : Nat} {f g : Nat → Nat → Bool} {r q : List Nat} {h : MH} (hn : n ≤ 64) (hm : m ≤ 64) (o1 : SOrd n f) (o2 : SOrd m g) (hr : Mp n m r) (hq : Mp n m q) (hl : leR n g r q = true) (hp : p = h.length) : ∀ (k : Nat) (d : Nat → Bool) (w : List Nat) (acc : List (Nat × Nat)) (F : Nat), (fib n d).length = k → w.length = n → (∀ x, x < n → d x = true → w[x]? = r[x]? ∧ r.getD x 0 ≠ q.getD x 0) → acc.length + (ups n m f g r q k d).length ≤ 5000 →
    ∃ w' d', whlG (truM (varM 8)) b2_steps_up (F + 1 + (ups n m f g r q k d).length) (sU n m f g r q p d) (hU h w acc) = some (.nx (sU n m f g r q p d') (hU h w' (acc ++ ups n m f g r q k d))) := by
  intro k
  induction k with
  | zero =>
    intro d w acc F h1 h2 h3 h4
    have hf : fib n d = [] := List.length_eq_zero_iff.mp h1
    have hz : msk n d = 0 := msk_zero.mpr (fib_nil.mp hf)
    refine ⟨w, d, ?_⟩
    have tf : truM (varM 8) (sU n m f g r q p d) (hU h w acc) = ok false (hU h w acc) := by
      rw [tru8, hz]
      rfl
    show whlG (truM (varM 8)) b2_steps_up (F + 1) (sU n m f g r q p d) (hU h w acc) = some (.nx _ (hU h w (acc ++ [])))
    rw [whl_f tf, List.append_nil]
  | succ k ih =>
    intro d w acc F h1 h2 h3 h4
    have ex : ∃ x, x < n ∧ d x = true := by
      cases hf : fib n d with
      | nil =>
        rw [hf] at h1
        cases h1
      | cons y ys =>
        have : y ∈ fib n d := by
          rw [hf]
          exact List.mem_cons_self ..
        exact ⟨y, fib_mem.mp this⟩
    obtain ⟨x, ht, hx, hd⟩ := top_ex o1 ex
    obtain ⟨t, hqt, htm⟩ := hq.at hx
    obtain ⟨a, hra, ham⟩ := hr.at hx
    obtain ⟨g1, g2⟩ := h3 x hx hd
    have hle := leR_iff.mp hl x hx
    rw [row_at hra, row_at hqt] at g2 hle
    have eu : ups n m f g r q (k + 1) d = (climb m g m a t).map (fun v => (x, v)) ++ ups n m f g r q k (rem d x) := by
      rw [ups, ht]
      dsimp only
      rw [row_at hra, row_at hqt]
    rw [eu] at h4 ⊢
    rw [List.length_append, List.length_map] at h4
    have e := prog_climb (F := F + 1 + (ups n m f g r q k (rem d x)).length) (r := r) (f := f) hn hm o2 hq hp ht hqt m a w acc mu_le hle g2 h2 (by rw [g1, hra]) (by omega)
    rw [List.length_append, List.length_map, show F + 1 + ((climb m g m a t).length + (ups n m f g r q k (rem d x)).length) = F + 1 + (ups n m f g r q k (rem d x)).length + (climb m g m a t).length by omega, e]
    have hlen := rem_len hx hd
    obtain ⟨w', d', e2⟩ := ih (rem d x) (w.set x t) (acc ++ (climb m g m a t).map fun v => (x, v)) F (by omega) (by rw [List.length_set]; exact h2) (fun y hy hdy => by
      have hdy' : (d y && decide (y ≠ x)) = true := hdy
      rw [Bool.and_eq_true, decide_eq_true_iff] at hdy'
      rw [List.getElem?_set_ne (Ne.symm hdy'.2)]
      exact h3 y hy hdy'.1) (by rw [List.length_append, List.length_map]; omega)
    exact ⟨w', d', by rw [e2, List.append_assoc]⟩
theorem steps_up {n m : Nat} {f g : Nat → Nat → Bool} {L L2 r q : List Nat} {h : MH} (o1 : Ow n f L) (o2 : Ow m g L2) (hr : Mp n m r) (hq : Mp n m q) (hl : leR n g r q = true) : f_steps_up [ordV n (prs n f), ordV m (prs m g), rowT r, rowT q] h = ok (.tup ((upS n m f g r q).map prV)) h := by
  have hn := o1.le
  have hm := o2.le
  obtain ⟨p, hp⟩ : ∃ p, p = h.length := ⟨_, rfl⟩
  have e1 := pat_most (g := g) (h := h) hm hr hq
  rw [hl] at e1
  have e2 : f_high_masks [ordV n (prs n f)] h = ok (mkV n f) h := k13.high_o hn
  have e3 : f_covers [ordV m (prs m g)] h = ok (.tup ((prs m (cov m g)).map prV)) h := k13.covers hm
  have e4 : f_high_masks [ordV m (prs m (cov m g))] h = ok (mkV m (cov m g)) h := k13.high_o hm
  have e5 := at_most_masks (f := g) (h := h) hm
  -- the differing points
  have dl : forS (turnM (unp [9, 10]) b1_steps_up) ((List.range n).map fun x => MV.tup [nV x, nV (r.getD x 0)]) [some (ordV n (prs n f)), some (ordV m (prs m g)), some (rowT r), some (rowT q), some (mkV n f), some (mkV m (cov m g)), some (mkV m fun x y => g y x || decide (y = x)), some (.ref p), some (.int 0), none, none, none] (h ++ [.lst (r.map nV)]) =
      some (.nx [some (ordV n (prs n f)), some (ordV m (prs m g)), some (rowT r), some (rowT q), some (mkV n f), some (mkV m (cov m g)), some (mkV m fun x y => g y x || decide (y = x)), some (.ref p), some (nV (msk n (dif r q))), none, none, none] (h ++ [.lst (r.map nV)])) := by
    have := (for_fold (f := fun x => MV.tup [nV x, nV (r.getD x 0)]) (bd := turnM (unp [9, 10]) b1_steps_up) (xs := List.range n) (i0 := 0) (a0 := 0) (fun i : Nat => [some (ordV n (prs n f)), some (ordV m (prs m g)), some (rowT r), some (rowT q), some (mkV n f), some (mkV m (cov m g)), some (mkV m fun x y => g y x || decide (y = x)), some (.ref p), some (nV (msk n fun j => decide (j < i) && dif r q j)), none, none, none]) (fun _ => h ++ [.lst (r.map nV)]) (fun i _ => i + 1) (fun i a => a = i) rfl fun i x a hx ha => by
      obtain ⟨hi, ex⟩ := List.getElem?_eq_some_iff.mp hx
      rw [List.getElem_range] at ex
      subst ex
      rw [Nat.zero_add] at ha
      subst ha
      have hi' : a < n := by simpa using hi
      obtain ⟨v, hv, _⟩ := hr.at hi'
      obtain ⟨w, hw, _⟩ := hq.at hi'
      have po : powOk 1 (a : Int) := ⟨by omega, by omega, by decide⟩
      have pw := k13.pow1 (y := a)
      have e9 : msk n (fun j => decide (j < a + 1) && dif r q j) = if v = w then msk n (fun j => decide (j < a) && dif r q j) else msk n (fun j => decide (j < a) && dif r q j) ||| 2 ^ a := by
        have hd : dif r q a = decide (v ≠ w) := by
          unfold dif
          rw [row_at hv, row_at hw]
        by_cases c : v = w
        · rw [if_pos c]
          refine msk_congr fun j hj => ?_
          by_cases z : j = a
          · subst z
            have z0 : decide (v ≠ w) = false := by simp [c]
            rw [hd, z0]
            simp
          · have : decide (j < a + 1) = decide (j < a) := by
              rw [decide_eq_decide]
              omega
            rw [this]
        · rw [if_neg c, msk_one hi']
          refine msk_congr fun j hj => ?_
          by_cases z : j = a
          · subst z
            rw [hd, decide_eq_true c]
            simp
          · have : decide (j < a + 1) = decide (j < a) := by
              rw [decide_eq_decide]
              omega
            rw [this, decide_eq_false z, Bool.or_false]
      refine ⟨?_, by omega⟩
      rw [e9, row_at hv]
      generalize msk n (fun j => decide (j < a) && dif r q j) = k1
      generalize ht : 2 ^ a = t at pw
      by_cases c : v = w
      · subst c
        rw [if_pos rfl]
        simp [b1_steps_up, atI_n, hw, eqB]
      · have c' : ¬ ((v : Int) = (w : Int)) := by omega
        rw [if_neg c]
        simp [b1_steps_up, atI_n, hw, eqB, c, c', po, pw, bitOr_nat, ht]).1
    have hf : ∀ k a0, (List.range' a0 k).foldl (fun i _ => i + 1) a0 = a0 + k := by
      intro k
      induction k with
      | zero => intro a0; rfl
      | succ k ih =>
        intro a0
        rw [List.range'_succ, List.foldl_cons, ih]
        omega
    have hf0 := hf n 0
    rw [← List.range_eq_range', Nat.zero_add] at hf0
    rw [hf0] at this
    have m0 : msk n (fun j => decide (j < 0) && dif r q j) = 0 := msk_zero.mpr fun j _ => by simp
    have m1 : msk n (fun j => decide (j < n) && dif r q j) = msk n (dif r q) := msk_congr fun j hj => by rw [decide_eq_true hj, Bool.true_and]
    rw [m0, m1] at this
    exact this
  have ul : (upS n m f g r q).length ≤ 4096 := Nat.le_trans ups_len (Nat.le_trans (Nat.mul_le_mul fib_len (Nat.le_refl m)) (Nat.mul_le_mul hn hm))
  obtain ⟨w', d', e6⟩ := prog_all (h := h) hn hm o1.so o2.so hr hq hl hp (fib n (dif r q)).length (dif r q) r [] (4999 - (upS n m f g r q).length) rfl hr.len (fun x _ hd => ⟨rfl, of_decide_eq_true hd⟩) (by show 0 + (upS n m f g r q).length ≤ 5000; omega)
  have ef : 4999 - (upS n m f g r q).length + 1 + (ups n m f g r q (fib n (dif r q)).length (dif r q)).length = 5000 := by
    show 4999 - (upS n m f g r q).length + 1 + (upS n m f g r q).length = 5000
    omega
  rw [ef, List.nil_append] at e6
  have en := enm_ns hr.len
  refine cut_p (os := [.lst (w'.map nV), .lst ((upS n m f g r q).map prV)]) ?_ clo_prs
  refine defM_ret rfl ?_
  show m_steps_up [some (ordV n (prs n f)), some (ordV m (prs m g)), some (rowT r), some (rowT q), none, none, none, none, none, none, none, none] h = _
  unfold m_steps_up
  have i0 : ixF (ordV m (prs m g)) (.int 0) h = ok (nV m) h := by simp [ordV, atI_0]
  have s1 : ifS (notT (truM (callM f_at_most [] (consA (varM 1) (consA (varM 2) (consA (varM 3) nilA)))))) (raiseS "NotAbove" [] nilA) nilS [some (ordV n (prs n f)), some (ordV m (prs m g)), some (rowT r), some (rowT q), none, none, none, none, none, none, none, none] h = some (.nx [some (ordV n (prs n f)), some (ordV m (prs m g)), some (rowT r), some (rowT q), none, none, none, none, none, none, none, none] h) :=
    ifS_f (notcall_t (f := f_at_most) (ds := []) (b := true) (consA_ok rfl (consA_ok rfl (k13.consA_1 rfl))) e1)
  rw [seq_nx s1, seq_nx (s1 := [some (ordV n (prs n f)), some (ordV m (prs m g)), some (rowT r), some (rowT q), some (mkV n f), none, none, none, none, none, none, none]) (h1 := h) (by simp [e2])]
  have s5 : setS 5 (callM f_high_masks [] (consA (tupM (consA (opM ixF (varM 1) (cM (.int 0))) (consA (callM f_covers [] (consA (varM 1) nilA)) nilA))) nilA)) [some (ordV n (prs n f)), some (ordV m (prs m g)), some (rowT r), some (rowT q), some (mkV n f), none, none, none, none, none, none, none] h = some (.nx [some (ordV n (prs n f)), some (ordV m (prs m g)), some (rowT r), some (rowT q), some (mkV n f), some (mkV m (cov m g)), none, none, none, none, none, none] h) := by
    refine setS_ok (callM_ok (f := f_high_masks) (ds := []) (k13.consA_1 (tupM_ok (consA_ok (k13.opM_is rfl rfl |>.trans i0) (k13.consA_1 (callM_ok (f := f_covers) (ds := []) (k13.consA_1 rfl) e3))) (by simp))) e4)
  rw [seq_nx s5, seq_nx (s1 := [some (ordV n (prs n f)), some (ordV m (prs m g)), some (rowT r), some (rowT q), some (mkV n f), some (mkV m (cov m g)), some (mkV m fun x y => g y x || decide (y = x)), none, none, none, none, none]) (h1 := h) (by simp [e5]),
    seq_nx (s1 := [some (ordV n (prs n f)), some (ordV m (prs m g)), some (rowT r), some (rowT q), some (mkV n f), some (mkV m (cov m g)), some (mkV m fun x y => g y x || decide (y = x)), some (.ref p), none, none, none, none]) (h1 := h ++ [.lst (r.map nV)]) (by simp [hp]),
    seq_nx (s1 := [some (ordV n (prs n f)), some (ordV m (prs m g)), some (rowT r), some (rowT q), some (mkV n f), some (mkV m (cov m g)), some (mkV m fun x y => g y x || decide (y = x)), some (.ref p), some (.int 0), none, none, none]) (h1 := h ++ [.lst (r.map nV)]) (by simp)]
  have s9 : preW [9, 10] (forM (enmI (consA (varM 2) nilA)) (unp [9, 10]) b1_steps_up) [some (ordV n (prs n f)), some (ordV m (prs m g)), some (rowT r), some (rowT q), some (mkV n f), some (mkV m (cov m g)), some (mkV m fun x y => g y x || decide (y = x)), some (.ref p), some (.int 0), none, none, none] (h ++ [.lst (r.map nV)]) = some (.nx [some (ordV n (prs n f)), some (ordV m (prs m g)), some (rowT r), some (rowT q), some (mkV n f), some (mkV m (cov m g)), some (mkV m fun x y => g y x || decide (y = x)), some (.ref p), some (nV (msk n (dif r q))), none, none, none] (h ++ [.lst (r.map nV)])) := by
    have : enmI (consA (varM 2) nilA) [some (ordV n (prs n f)), some (ordV m (prs m g)), some (rowT r), some (rowT q), some (mkV n f), some (mkV m (cov m g)), some (mkV m fun x y => g y x || decide (y = x)), some (.ref p), some (.int 0), none, none, none] (h ++ [.lst (r.map nV)]) = ok (.st ((List.range n).map fun x => MV.tup [nV x, nV (r.getD x 0)])) (h ++ [.lst (r.map nV)]) := by
      show ok (MIter.st (enmOf 0 (r.map nV))) _ = _
      rw [en]
    have fm : forM (enmI (consA (varM 2) nilA)) (unp [9, 10]) b1_steps_up [some (ordV n (prs n f)), some (ordV m (prs m g)), some (rowT r), some (rowT q), some (mkV n f), some (mkV m (cov m g)), some (mkV m fun x y => g y x || decide (y = x)), some (.ref p), some (.int 0), none, none, none] (h ++ [.lst (r.map nV)]) = some (.nx [some (ordV n (prs n f)), some (ordV m (prs m g)), some (rowT r), some (rowT q), some (mkV n f), some (mkV m (cov m g)), some (mkV m fun x y => g y x || decide (y = x)), some (.ref p), some (nV (msk n (dif r q))), none, none, none] (h ++ [.lst (r.map nV)])) := by
      unfold forM
      rw [this, bndS_ok]
      exact dl
    exact fm
  rw [seq_nx s9, seq_nx (s1 := sU n m f g r q p (dif r q)) (h1 := hU h r []) (by simp [sU, hU, hp])]
  have s10 : preW [9] (whlG (truM (varM 8)) b2_steps_up 5000) (sU n m f g r q p (dif r q)) (hU h r []) = some (.nx (sU n m f g r q p d') (hU h w' (upS n m f g r q))) := e6
  rw [seq_nx s10]
  have b1 := hU_1 (w := w') (acc := upS n m f g r q) hp
  refine (retS_ok (x := .tup ((upS n m f g r q).map prV)) (h1 := hU h w' (upS n m f g r q)) ?_).trans rfl
  generalize (upS n m f g r q).map prV = UU at b1 ⊢
  generalize hU h w' (upS n m f g r q) = HH at *
  simp [sU, b1]
theorem steps_up_no {n m : Nat} {f g : Nat → Nat → Bool} {L L2 r q : List Nat} {h : MH} (o1 : Ow n f L) (o2 : Ow m g L2) (hr : Mp n m r) (hq : Mp n m q) (hl : leR n g r q = false) : f_steps_up [ordV n (prs n f), ordV m (prs m g), rowT r, rowT q] h = some (.ex ⟨"NotAbove", []⟩ h) := by
  have e1 := pat_most (g := g) (h := h) o2.le hr hq
  rw [hl] at e1
  have e4 : defM 4 12 m_steps_up [ordV n (prs n f), ordV m (prs m g), rowT r, rowT q] h = some (.ex ⟨"NotAbove", []⟩ h) := defM_ex rfl (seq_ex ((ifS_t (notcall_t (f := f_at_most) (ds := []) (b := false) (consA_ok rfl (consA_ok rfl (k13.consA_1 rfl))) e1)).trans rfl))
  unfold f_steps_up cutF
  rw [e4]
end Mi.k14
set_option maxHeartbeats 4000000
namespace Mi.k14
open PySem L2
open Mi.k13 (St Ow owV Ri mkL mkV cov mem In rowT)
theorem cov_ {m a b : Nat} {g : Nat → Nat → Bool} {h : MH} (hm : m ≤ 64) (ha : a < m) (hb : b < m) : f_law_covers [matV m m g, .int (a : Int), .int (b : Int)] h = ok (.bl (cov m g a b)) h := k13.cov_ hm ha hb
theorem next {m a t : Nat} {g : Nat → Nat → Bool} {h : MH} (hm : m ≤ 64) (ha : a < m) (ht : t < m) : f_law_next [matV m m g, .int (a : Int), .int (t : Int)] h = ok (nV (nxt m g a t)) h := by
  have q1 : (m : Int) ≤ 1000000 := by omega
  have q2 : (-1000000 : Int) ≤ m := by omega
  have lp := for_find (bd := turnM (one 3) b1_law_next) (f := nV) (s := [some (matV m m g), some (nV a), some (nV t), none]) (h := h) (fun v => leB g v t && cov m g a v) nV (xs := List.range m) fun v hv => by
    have hv' := List.mem_range.mp hv
    have e1 := at_most_ (g := g) (h := h) hv' ht
    have e2 := cov_ (g := g) (h := h) hm ha hv'
    cases c1 : leB g v t <;> cases c2 : cov m g a v <;> rw [c1] at e1 <;> rw [c2] at e2 <;> simp [b1_law_next, e1, e2]
  have lm : (tb m fun x => MV.fls (tb m fun y => MV.bl (g x y))).length = m := tb_len
  unfold nxt
  rw [← run_m] at lp
  generalize hres : (List.range m).find? (fun v => leB g v t && cov m g a v) = res at lp ⊢
  unfold matV at lp ⊢
  cases res with
  | none => simp [f_law_next, m_law_next, lm, q1, q2, lp]
  | some x => simp [f_law_next, m_law_next, lm, q1, q2, lp]
/-! ### _law_up -/
def sV (n m : Nat) (f g : Nat → Nat → Bool) (L L2 r q : List Nat) (p : Nat) (x6 x7 x8 x11 x12 : Option MV) : MS := [some (owV n f L), some (owV m g L2), some (.fls (r.map nV)), some (.fls (q.map nV)), some (.ref p), some (.ref (p + 1)), x6, x7, x8, none, none, x11, x12]
def hV (h : MH) (acc : List (Nat × Nat)) (D : List Nat) : MH := h ++ [.lst (acc.map prV), .lst (D.map nV)]
theorem hV_0 {h : MH} {acc : List (Nat × Nat)} {D : List Nat} {p : Nat} (hp : p = h.length) : (hV h acc D)[p]? = some (.lst (acc.map prV)) := by
  unfold hV
  rw [ga0 hp.symm]
  rfl
theorem hV_1 {h : MH} {acc : List (Nat × Nat)} {D : List Nat} {p : Nat} (hp : p = h.length) : (hV h acc D)[p + 1]? = some (.lst (D.map nV)) := by
  unfold hV
  rw [ga hp.symm]
  rfl
theorem hV_s0 {h : MH} {acc acc2 : List (Nat × Nat)} {D : List Nat} {p : Nat} (hp : p = h.length) : (hV h acc D).set p (.lst (acc2.map prV)) = hV h acc2 D := by
  unfold hV
  rw [sa0 hp.symm]
  rfl
theorem hV_s1 {h : MH} {acc : List (Nat × Nat)} {D D2 : List Nat} {p : Nat} (hp : p = h.length) : (hV h acc D).set (p + 1) (.lst (D2.map nV)) = hV h acc D2 := by
  unfold hV
  rw [sa hp.symm]
  rfl
/-- one turn of the climb -/
def stp (m : Nat) (g : Nat → Nat → Bool) (x t : Nat) (s : Nat × List (Nat × Nat)) : Nat × List (Nat × Nat) := if s.1 = t then s else (nxt m g s.1 t, s.2 ++ [(x, nxt m g s.1 t)])
theorem stp_all {m x t : Nat} {g : Nat → Nat → Bool} : ∀ {k : List Nat} {a : Nat} {acc : List (Nat × Nat)}, (k.foldl (fun s _ => stp m g x t s) (a, acc)).2 = acc ++ (climb m g k.length a t).map fun v => (x, v)
  | [], a, acc => by simp [climb]
  | y :: k, a, acc => by
    rw [List.foldl_cons, List.length_cons]
    unfold climb
    by_cases c : a = t
    · have e : stp m g x t (a, acc) = (a, acc) := if_pos c
      rw [e, stp_all, if_pos c, c, climb_0]
    · have e : stp m g x t (a, acc) = (nxt m g a t, acc ++ [(x, nxt m g a t)]) := if_neg c
      rw [e, stp_all, if_neg c, List.map_cons, List.append_assoc]
      rfl
theorem climb_turn {n m p x t a i : Nat} {f g : Nat → Nat → Bool} {L L2 r q : List Nat} {x7 x8 : Option MV} {acc : List (Nat × Nat)} {D : List Nat} {h : MH} (o2 : Ow m g L2) (hp : p = h.length) (hqt : q[x]? = some t) (ht : t < m) (ha : a < m) (hacc : acc.length ≤ 5000) :
    turnM (one 12) b1_law_up (nV i) (sV n m f g L L2 r q p (some (nV x)) x7 x8 (some (nV a)) none) (hV h acc D) = some (.nx (sV n m f g L L2 r q p (some (nV x)) x7 x8 (some (nV (stp m g x t (a, acc)).1)) none) (hV h (stp m g x t (a, acc)).2 D)) := by
  have a0 := hV_0 (acc := acc) (D := D) hp
  have s0 := hV_s0 (acc := acc) (acc2 := acc ++ [(x, nxt m g a t)]) (D := D) hp
  have e1 := next (g := g) (h := hV h acc D) o2.le ha ht
  have la : acc.length < lim := by unfold lim; omega
  have l2 : 2 ≤ lim := by unfold lim; omega
  have s0' : (hV h acc D).set p (.lst (acc.map prV ++ [.tup [nV x, nV (nxt m g a t)]])) = hV h (acc ++ [(x, nxt m g a t)]) D := by
    rw [← s0]
    simp
  by_cases c : a = t
  · have e : stp m g x t (a, acc) = (a, acc) := if_pos c
    rw [e]
    subst c
    simp [sV, b1_law_up, atI_n, hqt, eqB]
  · have e : stp m g x t (a, acc) = (nxt m g a t, acc ++ [(x, nxt m g a t)]) := if_neg c
    have c' : ¬ ((a : Int) = (t : Int)) := by omega
    rw [e]
    simp [sV, b1_law_up, atI_n, hqt, eqB, c', c, owV, atI_1, e1, a0, la, l2, s0']
theorem erase_map {α β : Type} {f : α → β} : ∀ {xs : List α} {i : Nat}, (xs.map f).eraseIdx i = (xs.eraseIdx i).map f
  | [], _ => rfl
  | x :: xs, 0 => rfl
  | x :: xs, i + 1 => by
    rw [List.map_cons, List.eraseIdx_cons_succ, List.eraseIdx_cons_succ, List.map_cons, erase_map]
theorem up_t {n m p k i : Nat} {f g : Nat → Nat → Bool} {L L2 r q : List Nat} {d : Nat → Bool} {acc : List (Nat × Nat)} {h : MH} (o1 : Ow n f L) (o2 : Ow m g L2) (hr : Mp n m r) (hq : Mp n m q) (hl : leR n g r q = true) (hp : p = h.length) (hk : (fib n d).length = k + 1) (hacc : acc.length + (ups n m f g r q (k + 1) d).length ≤ 4096) :
    ∃ x, (turnM (one 7) b2_law_up (nV i) (sV n m f g L L2 r q p none none none none none) (hV h acc (fib n d)) = some (.nx (sV n m f g L L2 r q p none none none none none) (hV h (acc ++ (climb m g m (r.getD x 0) (q.getD x 0)).map fun v => (x, v)) (fib n (rem d x))))) ∧
      ups n m f g r q (k + 1) d = (climb m g m (r.getD x 0) (q.getD x 0)).map (fun v => (x, v)) ++ ups n m f g r q k (rem d x) ∧ (fib n (rem d x)).length = k := by
  have ex : ∃ x, x < n ∧ d x = true := by
    cases hf : fib n d with
    | nil =>
      rw [hf] at hk
      cases hk
    | cons y ys =>
      have : y ∈ fib n d := by
        rw [hf]
        exact List.mem_cons_self ..
      exact ⟨y, fib_mem.mp this⟩
  obtain ⟨x, ht, hx, hd⟩ := top_ex o1.so ex
  have eu : ups n m f g r q (k + 1) d = (climb m g m (r.getD x 0) (q.getD x 0)).map (fun v => (x, v)) ++ ups n m f g r q k (rem d x) := by
    rw [ups, ht]
  have hlen := rem_len hx hd
  refine ⟨x, ?_, eu, by omega⟩
  rw [eu, List.length_append, List.length_map] at hacc
  obtain ⟨t, hqt, htm⟩ := hq.at hx
  obtain ⟨a, hra, ham⟩ := hr.at hx
  rw [row_at hra, row_at hqt] at hacc ⊢
  have hn := o1.le
  have hm := o2.le
  have fl : (fib n d).length ≤ lim := by
    have := fib_len (n := n) (g := d)
    unfold lim
    omega
  have t1 : ∀ x, x < n → (tb n fun x => MV.fls (tb n fun y => MV.bl (f x y)))[x]? = some (.fls (tb n fun y => .bl (f x y))) := fun x hx => tb_get hx
  have t2 : ∀ x y, y < n → (tb n fun y => MV.bl (f x y))[y]? = some (.bl (f x y)) := fun x y hy => tb_get hy
  have b1 := hV_1 (acc := acc) (D := fib n d) hp
  -- the tops: the list is a place of the heap
  have dyn : ∀ (i : Nat) (cd : MM Bool) (s0 : MS) (c : Nat → Bool) (hc : ∀ y ∈ fib n d, cd (s0.set i (some (nV y))) (hV h acc (fib n d)) = ok (c y) (hV h acc (fib n d))) (hs : ∀ y, slot (s0.set i (some (nV y))) i = some (nV y)),
      lcL (one i) cd (varM i) s0 (p + 1) ((fib n d).length + 1) 0 [] (hV h acc (fib n d)) = ok (((fib n d).filter c).map nV) (hV h acc (fib n d)) := fun i cd s0 c hc hs => by
    have : ∀ (k j : Nat) (ac : List MV), j + k = (fib n d).length → ac.length ≤ j → lcL (one i) cd (varM i) s0 (p + 1) (k + 1) j ac (hV h acc (fib n d)) = ok (ac ++ (((fib n d).drop j).filter c).map nV) (hV h acc (fib n d)) := by
      intro k
      induction k with
      | zero =>
        intro j ac hj hac
        have : ((fib n d).map nV)[j]? = none := List.getElem?_eq_none (by rw [List.length_map]; omega)
        rw [lcL, b1]
        dsimp only
        rw [this, List.drop_eq_nil_of_le (by omega)]
        show ok ac _ = ok (ac ++ []) _
        rw [List.append_nil]
      | succ k ih =>
        intro j ac hj hac
        obtain ⟨y, hy⟩ : ∃ y, (fib n d)[j]? = some y := ⟨_, List.getElem?_eq_getElem (by omega)⟩
        have hy2 : ((fib n d).map nV)[j]? = some (nV y) := by rw [List.getElem?_map, hy]; rfl
        obtain ⟨hj2, ey⟩ := List.getElem?_eq_some_iff.mp hy
        rw [lcL, b1]
        dsimp only
        rw [hy2]
        show (cd (s0.set i (some (nV y))) _).bnd _ = _
        rw [hc y (List.mem_of_getElem? hy), bnd_ok, List.drop_eq_getElem_cons hj2, ey]
        cases hcy : c y with
        | false =>
          rw [if_neg Bool.false_ne_true, ih (j + 1) ac (by omega) (by omega), List.filter_cons_of_neg (by rw [hcy]; exact Bool.false_ne_true)]
        | true =>
          have hv : varM i (s0.set i (some (nV y))) (hV h acc (fib n d)) = ok (nV y) (hV h acc (fib n d)) := by
            unfold varM
            rw [hs]
            rfl
          rw [if_pos rfl, hv, bnd_ok, if_pos (by omega), ih (j + 1) (ac ++ [nV y]) (by omega) (by rw [List.length_append]; show ac.length + 1 ≤ _; omega), List.filter_cons_of_pos hcy, List.map_cons, List.append_assoc]
          rfl
    have := this (fib n d).length 0 [] (by omega) (Nat.le_refl _)
    rw [this, List.drop_zero, List.nil_append]
  have T := dyn 9 (tstM (opM eqF (bltM lenF (consA (flsM (lcM (seqI (varM 5)) [10] (one 10) (truM (opM ixF (opM ixF (opM ixF (varM 0) (cM (.int 1))) (varM 9)) (varM 10))) (varM 10))) nilA)) (cM (.int 0)))) (sV n m f g L L2 r q p none (some (nV i)) none none none) (fun a => (fib n d).all fun b => !f a b) (fun y hy => by
    have hy' := (fib_mem.mp hy).1
    have I := dyn 10 (truM (opM ixF (opM ixF (opM ixF (varM 0) (cM (.int 1))) (varM 9)) (varM 10))) ((sV n m f g L L2 r q p none (some (nV i)) none none none).set 9 (some (nV y))) (fun b => f y b) (fun b hb => by
      have hb' := (fib_mem.mp hb).1
      simp [sV, owV, atI_1, matV, atI_n, t1 y hy', t2 y b hb']) (fun b => rfl)
    have e0 : ((fib n d).all fun b => !f y b) = ((fib n d).filter fun b => f y b).isEmpty := by
      rw [Bool.eq_iff_iff, List.all_eq_true, List.isEmpty_iff, List.filter_eq_nil_iff]
      simp
    rw [e0]
    generalize ((fib n d).filter fun b => f y b) = zs at I ⊢
    have e3 := eq0 (zs := zs)
    generalize fib n d = D at *
    generalize hHV : hV h acc D = HV at *
    have ll : (D.map nV).length = D.length := List.length_map ..
    unfold sV at I ⊢
    simp only [List.set_cons_succ, List.set_cons_zero] at I
    simp [b1, I, e3]) (fun y => rfl)
  obtain ⟨tops, htops⟩ : ∃ tops, tops = (fib n d).filter fun a => (fib n d).all fun b => !f a b := ⟨_, rfl⟩
  have t0 : tops[0]? = some x := by
    rw [htops, ← List.head?_eq_getElem?, List.head?_filter]
    exact ht
  rw [← htops] at T
  show b2_law_up (sV n m f g L L2 r q p none (some (nV i)) none none none) (hV h acc (fib n d)) = _
  unfold b2_law_up wipT
  have u1 : setS 8 (flsM (lcM (seqI (varM 5)) [9] (one 9) (tstM (opM eqF (bltM lenF (consA (flsM (lcM (seqI (varM 5)) [10] (one 10) (truM (opM ixF (opM ixF (opM ixF (varM 0) (cM (.int 1))) (varM 9)) (varM 10))) (varM 10))) nilA)) (cM (.int 0)))) (varM 9))) (sV n m f g L L2 r q p none (some (nV i)) none none none) (hV h acc (fib n d)) = some (.nx (sV n m f g L L2 r q p none (some (nV i)) (some (.fls (tops.map nV))) none none) (hV h acc (fib n d))) := by
    have ll : ((fib n d).map nV).length = (fib n d).length := List.length_map ..
    generalize fib n d = D at *
    generalize hHV : hV h acc D = HV at *
    unfold sV at T ⊢
    simp [b1, T]
  rw [seq_nx u1, seq_nx (s1 := sV n m f g L L2 r q p (some (nV x)) (some (nV i)) (some (.fls (tops.map nV))) none none) (h1 := hV h acc (fib n d)) (by simp [sV, atI_0, t0]),
    seq_nx (s1 := sV n m f g L L2 r q p (some (nV x)) (some (nV i)) (some (.fls (tops.map nV))) (some (nV a)) none) (h1 := hV h acc (fib n d)) (by simp [sV, atI_n, hra])]
  -- the climb
  have cl := for_fold (f := nV) (bd := turnM (one 12) b1_law_up) (xs := List.range m) (i0 := 0) (a0 := (a, acc)) (fun s => sV n m f g L L2 r q p (some (nV x)) (some (nV i)) (some (.fls (tops.map nV))) (some (nV s.1)) none) (fun s => hV h s.2 (fib n d)) (fun s _ => stp m g x t s) (fun j s => s.1 < m ∧ leB g s.1 t = true ∧ s.2.length ≤ acc.length + j) ⟨ham, by have := leR_iff.mp hl x hx; rwa [row_at hra, row_at hqt] at this, Nat.le_refl _⟩ fun j y s hy ⟨c1, c2, c3⟩ => by
    have hj : j < m := by
      have := (List.getElem?_eq_some_iff.mp hy).1
      simpa using this
    refine ⟨climb_turn o2 hp hqt htm c1 (by omega), ?_⟩
    unfold stp
    by_cases z : s.1 = t
    · rw [if_pos z]
      exact ⟨c1, c2, by omega⟩
    · rw [if_neg z]
      obtain ⟨n1, n2, _, _⟩ := nxt_is o2.so (leB_ne c2 z)
      exact ⟨n1, n2, by rw [List.length_append]; show s.2.length + 1 ≤ _; omega⟩
  have e2 := stp_all (m := m) (g := g) (x := x) (t := t) (k := List.range m) (a := a) (acc := acc)
  rw [List.length_range] at e2
  obtain ⟨fs, hfs⟩ : ∃ fs, fs = (List.range m).foldl (fun s _ => stp m g x t s) (a, acc) := ⟨_, rfl⟩
  rw [← hfs] at cl e2
  have c0 := cl.1
  rw [e2, ← run_m] at c0
  have q1 : (m : Int) ≤ 1000000 := by omega
  have q2 : (-1000000 : Int) ≤ m := by omega
  have lmt : (tb m fun x => MV.fls (tb m fun y => MV.bl (g x y))).length = m := tb_len
  have u4 : preW [12] (forM (rng1 (consA (bltM lenF (consA (opM ixF (varM 1) (cM (.int 1))) nilA)) nilA)) (one 12) b1_law_up) (sV n m f g L L2 r q p (some (nV x)) (some (nV i)) (some (.fls (tops.map nV))) (some (nV a)) none) (hV h acc (fib n d)) = some (.nx (sV n m f g L L2 r q p (some (nV x)) (some (nV i)) (some (.fls (tops.map nV))) (some (nV fs.1)) none) (hV h (acc ++ (climb m g m a t).map fun v => (x, v)) (fib n d))) := by
    unfold sV at c0 ⊢
    simp [owV, atI_1, matV, lmt, q1, q2]
    unfold owV matV at c0
    exact c0
  rw [seq_nx u4]
  have hxD : x ∈ fib n d := fib_mem.mpr ⟨hx, hd⟩
  have b2 := hV_1 (acc := acc ++ (climb m g m a t).map fun v => (x, v)) (D := fib n d) hp
  have s1 := hV_s1 (acc := acc ++ (climb m g m a t).map fun v => (x, v)) (D := fib n d) (D2 := fib n (rem d x)) hp
  have er : (fib n (rem d x)).map nV = ((fib n d).map nV).eraseIdx ((fib n d).idxOf x) := by
    rw [fib_rem, ← erase_nd fib_nd hxD, erase_map]
  rw [er] at s1
  have ix := idx_ns (k := x) (xs := fib n d)
  have il := List.idxOf_lt_length_of_mem hxD
  have iu := ints_ns (xs := fib n d)
  have ln : ((fib n d).map fun (x : Nat) => (x : Int)).length = (fib n d).length := List.length_map ..
  generalize (acc ++ (climb m g m a t).map fun v => (x, v)) = acc2 at *
  have rm : remF (.ref (p + 1)) [.int (x : Int)] (hV h acc2 (fib n d)) = ok .non (hV h acc2 (fib n (rem d x))) := by
    unfold remF
    dsimp only
    rw [b2]
    dsimp only
    rw [iu]
    dsimp only
    rw [ix, ln, if_pos il, s1]
  have isl : isL (hV h acc2 (fib n d)) (.ref (p + 1)) = true := by simp [b2]
  have u5 : dropS (mthM remF (varM 5) (consA (varM 6) nilA)) (sV n m f g L L2 r q p (some (nV x)) (some (nV i)) (some (.fls (tops.map nV))) (some (nV fs.1)) none) (hV h acc2 (fib n d)) = some (.nx (sV n m f g L L2 r q p (some (nV x)) (some (nV i)) (some (.fls (tops.map nV))) (some (nV fs.1)) none) (hV h acc2 (fib n (rem d x)))) := by
    unfold dropS mthM
    have v5 : varM 5 (sV n m f g L L2 r q p (some (nV x)) (some (nV i)) (some (.fls (tops.map nV))) (some (nV fs.1)) none) (hV h acc2 (fib n d)) = ok (.ref (p + 1)) (hV h acc2 (fib n d)) := rfl
    rw [v5, bnd_ok, if_pos isl, k13.consA_1 (show varM 6 _ _ = ok (nV x) _ from rfl), bnd_ok, rm, bndS_ok]
  rw [u5]
  rfl
end Mi.k14
set_option maxHeartbeats 4000000
namespace Mi.k14
open PySem L2
open Mi.k13 (St Ow owV Ri mkL mkV cov mem In rowT)
theorem law_up {n m : Nat} {f g : Nat → Nat → Bool} {L L2 r q : List Nat} {h : MH} (o1 : Ow n f L) (o2 : Ow m g L2) (hr : Mp n m r) (hq : Mp n m q) (hl : leR n g r q = true) : f_law_up [owV n f L, owV m g L2, .fls (r.map nV), .fls (q.map nV)] h = ok (.fls ((upS n m f g r q).map prV)) h := by
  have hn := o1.le
  have hm := o2.le
  obtain ⟨p, hp⟩ : ∃ p, p = h.length := ⟨_, rfl⟩
  have q1 : (n : Int) ≤ 1000000 := by omega
  have q2 : (-1000000 : Int) ≤ n := by omega
  have ul : (upS n m f g r q).length ≤ 4096 := Nat.le_trans ups_len (Nat.le_trans (Nat.mul_le_mul fib_len (Nat.le_refl m)) (Nat.mul_le_mul hn hm))
  obtain ⟨K, hK⟩ : ∃ K, K = (fib n (dif r q)).length := ⟨_, rfl⟩
  have hKn : K ≤ 64 := by
    have := fib_len (n := n) (g := dif r q)
    omega
  obtain ⟨⟨d, acc⟩, e, c1, c2⟩ := for_m (f := nV) (bd := turnM (one 7) b2_law_up) (xs := List.range K) (fun _ : (Nat → Bool) × List (Nat × Nat) => sV n m f g L L2 r q p none none none none none) (fun s => hV h s.2 (fib n s.1)) (fun i s => (fib n s.1).length + i = K ∧ s.2 ++ ups n m f g r q (K - i) s.1 = upS n m f g r q) (a0 := (dif r q, [])) ⟨hK.symm, by rw [List.nil_append, Nat.sub_zero, hK]; rfl⟩ fun i y s hy ⟨c1, c2⟩ => by
    have hi : i < K := by
      have := (List.getElem?_eq_some_iff.mp hy).1
      simpa using this
    obtain ⟨k, hk⟩ : ∃ k, K - i = k + 1 := ⟨K - i - 1, by omega⟩
    rw [hk] at c2
    have hlen : s.2.length + (ups n m f g r q (k + 1) s.1).length ≤ 4096 := by
      rw [← List.length_append, c2]
      exact ul
    obtain ⟨x, e1, e2, e3⟩ := up_t (i := y) (L := L) (L2 := L2) (h := h) o1 o2 hr hq hl hp (show (fib n s.1).length = k + 1 by omega) hlen
    refine ⟨(rem s.1 x, s.2 ++ (climb m g m (r.getD x 0) (q.getD x 0)).map fun v => (x, v)), .inl e1, by show (fib n (rem s.1 x)).length + (i + 1) = K; omega, ?_⟩
    rw [show K - (i + 1) = k by omega]
    show s.2 ++ _ ++ _ = _
    rw [List.append_assoc, ← e2, c2]
  rw [List.length_range] at c1 c2
  have c1' : (fib n d).length + K = K := c1
  have hd : fib n d = [] := List.length_eq_zero_iff.mp (by omega)
  have c2' : acc ++ ups n m f g r q (K - K) d = upS n m f g r q := c2
  rw [Nat.sub_self] at c2'
  have c3 : acc = upS n m f g r q := by
    rw [← c2']
    show acc = acc ++ []
    rw [List.append_nil]
  have e' : forS (turnM (one 7) b2_law_up) (runOf 0 K) (sV n m f g L L2 r q p none none none none none) (hV h [] (fib n (dif r q))) = some (.nx (sV n m f g L L2 r q p none none none none none) (hV h acc (fib n d))) := by
    rw [run_m]
    exact e
  rw [c3, hd] at e'
  refine cut_p (os := [.dead, .lst []]) ?_ clo_prs
  refine defM_ret rfl ?_
  show m_law_up [some (owV n f L), some (owV m g L2), some (.fls (r.map nV)), some (.fls (q.map nV)), none, none, none, none, none, none, none, none, none] h = _
  unfold m_law_up
  have hrl := hr.len
  have el := lc_p (i := 6) (f := nV) (cd := tstM (opM neF (opM ixF (varM 2) (varM 6)) (opM ixF (varM 3) (varM 6)))) (el := varM 6) (s0 := [some (owV n f L), some (owV m g L2), some (.fls (r.map nV)), some (.fls (q.map nV)), some (.ref p), none, none, none, none, none, none, none, none]) (h := h ++ [.lst []]) (dif r q) nV (xs := List.range n) (by unfold lim; simp; omega) fun x hx => by
    have hx' := List.mem_range.mp hx
    obtain ⟨v, hv, vl⟩ := hr.at hx'
    obtain ⟨w, hw, wl⟩ := hq.at hx'
    refine ⟨?_, fun _ => by simp⟩
    have e0 : dif r q x = !decide (v = w) := by
      unfold dif
      rw [row_at hv, row_at hw]
      simp
    have e3 : eqB (nV v) (nV w) = some (decide (v = w)) := by
      show some (decide ((v : Int) = (w : Int))) = _
      congr 1
      rw [Bool.eq_iff_iff, decide_eq_true_iff, decide_eq_true_iff]
      omega
    rw [e0]
    simp [atI_n, hv, hw, e3]
  have el' : lcS (one 6) (tstM (opM neF (opM ixF (varM 2) (varM 6)) (opM ixF (varM 3) (varM 6)))) (varM 6) [some (owV n f L), some (owV m g L2), some (.fls (r.map nV)), some (.fls (q.map nV)), some (.ref p), none, none, none, none, none, none, none, none] (runOf 0 n) [] (h ++ [.lst []]) = ok ((fib n (dif r q)).map nV) (h ++ [.lst []]) := by
    rw [run_m]
    exact el
  rw [seq_nx (s1 := [some (owV n f L), some (owV m g L2), some (.fls (r.map nV)), some (.fls (q.map nV)), some (.ref p), none, none, none, none, none, none, none, none]) (h1 := h ++ [.lst []]) (by simp [hp])]
  have s5 : setS 5 (refM (lcM (rng1 (consA (bltM lenF (consA (varM 2) nilA)) nilA)) [6] (one 6) (tstM (opM neF (opM ixF (varM 2) (varM 6)) (opM ixF (varM 3) (varM 6)))) (varM 6))) [some (owV n f L), some (owV m g L2), some (.fls (r.map nV)), some (.fls (q.map nV)), some (.ref p), none, none, none, none, none, none, none, none] (h ++ [.lst []]) = some (.nx (sV n m f g L L2 r q p none none none none none) (hV h [] (fib n (dif r q)))) := by
    simp [hrl, q1, q2, el', sV, hV, ← hp]
  rw [seq_nx s5]
  have b1 := hV_1 (acc := ([] : List (Nat × Nat))) (D := fib n (dif r q)) hp
  have k1 : (K : Int) ≤ 1000000 := by omega
  have k2 : (-1000000 : Int) ≤ K := by omega
  have s6 : preW [6, 7, 8, 11, 12] (forM (rng1 (consA (bltM lenF (consA (varM 5) nilA)) nilA)) (one 7) b2_law_up) (sV n m f g L L2 r q p none none none none none) (hV h [] (fib n (dif r q))) = some (.nx (sV n m f g L L2 r q p none none none none none) (hV h (upS n m f g r q) [])) := by
    have ll : ((fib n (dif r q)).map nV).length = K := by rw [List.length_map, hK]
    generalize (fib n (dif r q)).map nV = DD at b1 ll
    generalize hH0 : hV h [] (fib n (dif r q)) = H0 at *
    unfold sV at e' ⊢
    simp [b1, ll, k1, k2, e']
  rw [seq_nx s6]
  have b0 := hV_0 (acc := upS n m f g r q) (D := []) hp
  have fz := frz_lst 2 b0 (List.all_eq_true.mpr fun x hx => by
    obtain ⟨i, _, e⟩ := List.mem_map.mp hx
    rw [← e]
    rfl)
  have es : (hV h (upS n m f g r q) []).set p .dead = h ++ [.dead, .lst []] := by
    unfold hV
    rw [sa0 hp.symm]
    rfl
  rw [es] at fz
  refine retS_ok ?_
  show (varM 4 (sV n m f g L L2 r q p none none none none none) (hV h (upS n m f g r q) [])).bnd _ = _
  show (match frzV 4 (.ref p) (hV h (upS n m f g r q) []) with
    | some (y, h2) => ok y h2
    | none => none) = _
  rw [fz]
/-- what is due -/
def dueV (n m : Nat) (f g : Nat → Nat → Bool) (r q : List Nat) : MV := if leR n g r q = true then .tup [.str "told", .tup ((upS n m f g r q).map prV)] else .fls [.str "above", .bl true]
theorem due {n m : Nat} {f g : Nat → Nat → Bool} {L L2 r q : List Nat} {h : MH} (o1 : Ow n f L) (o2 : Ow m g L2) (hr : Mp n m r) (hq : Mp n m q) : f_law_due [owV n f L, owV m g L2, .fls (r.map nV), .fls (q.map nV)] h = ok (dueV n m f g r q) h := by
  have e1 := lis_at_most (g := g) (L2 := L2) (h := h) o1.le hr hq
  unfold dueV
  cases c : leR n g r q with
  | true =>
    have e2 := law_up (h := h) o1 o2 hr hq c
    rw [c] at e1
    simp [f_law_due, m_law_due, e1, e2, lim]
  | false =>
    rw [c] at e1
    simp [f_law_due, m_law_due, e1, lim]
theorem asked {n m : Nat} {f g : Nat → Nat → Bool} {L L2 r q : List Nat} {b : Bool} {h : MH} (o1 : Ow n f L) (o2 : Ow m g L2) (hr : Mp n m r) (hq : Mp n m q) : f_law_asked [owV n f L, owV m g L2, .fls (r.map nV), .fls (q.map nV), .bl b] h = ok (dueV n m f g r q) h := by
  have i1 : ∀ k (f : Nat → Nat → Bool) (L : List Nat), ixF (owV k f L) (.int 0) h = ok (ordV k (prs k f)) h := fun k f L => by simp [owV, atI_0]
  obtain ⟨s0, hs0⟩ : ∃ s0 : MS, s0 = [some (owV n f L), some (owV m g L2), some (.fls (r.map nV)), some (.fls (q.map nV)), some (.bl b), none, none] := ⟨_, rfl⟩
  have t2 : opM ixF (varM 0) (cM (.int 0)) s0 h = ok (ordV n (prs n f)) h := by rw [hs0]; exact i1 n f L
  have t3 : opM ixF (varM 1) (cM (.int 0)) s0 h = ok (ordV m (prs m g)) h := by rw [hs0]; exact i1 m g L2
  have t4 : bltM tupF (consA (varM 2) nilA) s0 h = ok (rowT r) h := by rw [hs0]; rfl
  have t5 : bltM tupF (consA (varM 3) nilA) s0 h = ok (rowT q) h := by rw [hs0]; rfl
  have A1 : consA (opM ixF (varM 0) (cM (.int 0))) (consA (opM ixF (varM 1) (cM (.int 0))) (consA (bltM tupF (consA (varM 2) nilA)) (consA (bltM tupF (consA (varM 3) nilA)) nilA))) s0 h = ok [ordV n (prs n f), ordV m (prs m g), rowT r, rowT q] h := consA_ok t2 (consA_ok t3 (consA_ok t4 (k13.consA_1 t5)))
  have A2 : consA (bltM tupF (consA (varM 3) nilA)) (consA (bltM tupF (consA (varM 2) nilA)) (consA (opM ixF (varM 1) (cM (.int 0))) (consA (opM ixF (varM 0) (cM (.int 0))) nilA))) s0 h = ok [rowT q, rowT r, ordV m (prs m g), ordV n (prs n f)] h := consA_ok t5 (consA_ok t4 (consA_ok t3 (k13.consA_1 t2)))
  have v4 : truM (varM 4) s0 h = ok b h := by rw [hs0]; rfl
  unfold dueV
  cases c : leR n g r q with
  | true =>
    have e := steps_up (h := h) o1 o2 hr hq c
    rw [if_pos rfl]
    refine cut_p (os := []) ?_ (by simp)
    rw [List.append_nil]
    refine defM_ret rfl ?_
    show m_law_asked [some (owV n f L), some (owV m g L2), some (.fls (r.map nV)), some (.fls (q.map nV)), some (.bl b), none, none] h = _
    rw [← hs0]
    unfold m_law_asked tryS
    have Q : (seqS (ifS (truM (varM 4)) (retS (tupM (consA (cM (.str "told")) (consA (callKX f_steps_up 0 4 [3, 2, 1, 0] [] nilA (consA (bltM tupF (consA (varM 3) nilA)) (consA (bltM tupF (consA (varM 2) nilA)) (consA (opM ixF (varM 1) (cM (.int 0))) (consA (opM ixF (varM 0) (cM (.int 0))) nilA))))) nilA)))) nilS)
    (retS (tupM (consA (cM (.str "told")) (consA (callX f_steps_up [] (consA (opM ixF (varM 0) (cM (.int 0))) (consA (opM ixF (varM 1) (cM (.int 0))) (consA (bltM tupF (consA (varM 2) nilA)) (consA (bltM tupF (consA (varM 3) nilA)) nilA))))) nilA))))) s0 h = some (.ret (.tup [.str "told", .tup ((upS n m f g r q).map prV)]) h) := by
      cases b with
      | true =>
        refine seq_ret ((ifS_t v4).trans (retS_ok (tupM_ok (consA_ok rfl (consA_ok ?_ rfl)) (by simp))))
        exact (callKX_0 A2 rfl).trans e
      | false =>
        refine (seq_nx (ifS_f v4)).trans (retS_ok (tupM_ok (consA_ok rfl (consA_ok ?_ rfl)) (by simp)))
        exact (callX_is A1).trans e
    rw [Q]
  | false =>
    have e := steps_up_no (h := h) o1 o2 hr hq c
    rw [if_neg Bool.false_ne_true]
    refine cut_p (os := []) ?_ (by simp)
    rw [List.append_nil]
    refine defM_ret rfl ?_
    show m_law_asked [some (owV n f L), some (owV m g L2), some (.fls (r.map nV)), some (.fls (q.map nV)), some (.bl b), none, none] h = _
    rw [← hs0]
    unfold m_law_asked tryS
    have Q : (seqS (ifS (truM (varM 4)) (retS (tupM (consA (cM (.str "told")) (consA (callKX f_steps_up 0 4 [3, 2, 1, 0] [] nilA (consA (bltM tupF (consA (varM 3) nilA)) (consA (bltM tupF (consA (varM 2) nilA)) (consA (opM ixF (varM 1) (cM (.int 0))) (consA (opM ixF (varM 0) (cM (.int 0))) nilA))))) nilA)))) nilS)
    (retS (tupM (consA (cM (.str "told")) (consA (callX f_steps_up [] (consA (opM ixF (varM 0) (cM (.int 0))) (consA (opM ixF (varM 1) (cM (.int 0))) (consA (bltM tupF (consA (varM 2) nilA)) (consA (bltM tupF (consA (varM 3) nilA)) nilA))))) nilA))))) s0 h = some (.ex ⟨"NotAbove", []⟩ h) := by
      cases b with
      | true =>
        refine seq_ex ((ifS_t v4).trans (retS_ex (tupM_ex (consA_ex2 rfl (consA_ex ?_)))))
        exact (callKX_0 A2 rfl).trans e
      | false =>
        refine (seq_nx (ifS_f v4)).trans (retS_ex (tupM_ex (consA_ex2 rfl (consA_ex ?_))))
        exact (callX_is A1).trans e
    rw [Q]
    have lk : List.lookup ("NotAbove" : Str) [(("NotAbove" : Str), true)] = some true := rfl
    have lk2 : List.lookup ("NotAbove" : Str) [(("NotAbove" : Str), false)] = some false := rfl
    dsimp only
    rw [lk]
    dsimp only
    refine allAd_eq fun a d => ?_
    simp only [lk, lk2]
    simp [lim]
end Mi.k14
set_option maxHeartbeats 4000000
namespace Mi.k14
open PySem L2
open Mi.k13 (St Ow owV Ri mkL mkV cov mem In rowT plB)
theorem draw {S os : MH} {m : Nat} (hS : St S) (hm : 0 < m) (hm2 : m < 1000000) : ∃ (d : Nat) (S' : MH), f_law_draw [.ref 0, nV m] (S ++ os) = ok (nV d) (S' ++ os) ∧ d < m ∧ St S' := k13.draw hS hm hm2
theorem map_ {S os : MH} {n m : Nat} {f g : Nat → Nat → Bool} {L L2 : List Nat} (hS : St S) (o1 : Ow n f L) (o2 : Ow m g L2) (h0 : 0 < n → 0 < m) : ∃ (r : List Nat) (S' : MH),
    f_law_map [.ref 0, owV n f L, owV m g L2] (S ++ os) = ok (.fls (r.map nV)) (S' ++ os) ∧ Ri n m f g r ∧ St S' := k13.map_ hS o1 o2 h0
theorem same {v : MV} {h : MH} (e : plB 5 v = true) : f_law_same [v, v] h = ok (.bl true) h := k13.same e
theorem start {ns : List Int} {h : MH} (hn : ns.length ≤ 63) : ∃ S, f_law_start [.frz (ns.map MV.int)] [] = ok (.ref 0) S ∧ St S := k13.start (h := h) hn
/-- two orders: as in k13, without the great ones -/
theorem orders_ {S os : MH} (hS : St S) : ∃ (n m : Nat) (f g : Nat → Nat → Bool) (L L2 : List Nat) (S' : MH), f_law_orders [.ref 0] (S ++ os) = ok (.tup [owV n f L, owV m g L2]) (S' ++ os) ∧ Ow n f L ∧ Ow m g L2 ∧ (0 < n → 0 < m) ∧ St S' := by
  obtain ⟨d, S1, e1, hd, h1⟩ := draw (os := os) (m := 20) hS (by omega) (by omega)
  obtain ⟨n0, S2, e2, hn0, h2⟩ := draw (os := os) (m := 8) h1 (by omega) (by omega)
  obtain ⟨m0, S3, e3, hm0, h3⟩ := draw (os := os) (m := 8) h2 (by omega) (by omega)
  have e1' : f_law_draw [.ref 0, .int 20] (S ++ os) = ok (.int (d : Int)) (S1 ++ os) := e1
  have e2' : f_law_draw [.ref 0, .int 8] (S1 ++ os) = ok (.int (n0 : Int)) (S2 ++ os) := e2
  have e3' : f_law_draw [.ref 0, .int 8] (S2 ++ os) = ok (.int (m0 : Int)) (S3 ++ os) := e3
  have fin : ∀ x S4, m_law_orders [some (.ref 0), none, none, none] (S ++ os) = some (.ret x (S4 ++ os)) → f_law_orders [.ref 0] (S ++ os) = ok x (S4 ++ os) := fun x S4 e => defM_ret rfl e
  have K6 : ∀ {S : MH} {n : Nat}, St S → n ≤ 64 → ∃ f L S', f_law_order [.ref 0, .int (n : Int), .tup [.int 0, .int 1, .int 2, .int 3, .int 4, .int 5]] (S ++ os) = ok (owV n f L) (S' ++ os) ∧ Ow n f L ∧ St S' := fun {S n} hS hn => by
    have := k13.order (os := os) (n := n) (ks := [0, 1, 2, 3, 4, 5]) hS hn (by decide) (by decide) (by decide)
    exact this
  have go : ∀ (n m : Nat) (S4 : MH), St S4 → n ≤ 64 → m ≤ 64 → (0 < n → 0 < m) → (∀ x S5, (retS (tupM (consA (callM f_law_order [] (consA (varM 0) (consA (varM 2) (consA (tupM (consA (cM (.int 0)) (consA (cM (.int 1)) (consA (cM (.int 2)) (consA (cM (.int 3)) (consA (cM (.int 4)) (consA (cM (.int 5)) nilA))))))) nilA)))) (consA (callM f_law_order [] (consA (varM 0) (consA (varM 3) (consA (tupM (consA (cM (.int 0)) (consA (cM (.int 1)) (consA (cM (.int 2)) (consA (cM (.int 3)) (consA (cM (.int 4)) (consA (cM (.int 5)) nilA))))))) nilA)))) nilA)))) [some (.ref 0), some (nV d), some (nV n), some (nV m)] (S4 ++ os) = some (.ret x (S5 ++ os)) → m_law_orders [some (.ref 0), none, none, none] (S ++ os) = some (.ret x (S5 ++ os))) →
      ∃ (n m : Nat) (f g : Nat → Nat → Bool) (L L2 : List Nat) (S' : MH), f_law_orders [.ref 0] (S ++ os) = ok (.tup [owV n f L, owV m g L2]) (S' ++ os) ∧ Ow n f L ∧ Ow m g L2 ∧ (0 < n → 0 < m) ∧ St S' := fun n m S4 h4 hn hm h0 k => by
    obtain ⟨f, L, S5, e5, o5, h5⟩ := K6 h4 hn
    obtain ⟨g, L2, S6, e6, o6, h6⟩ := K6 h5 hm
    refine ⟨n, m, f, g, L, L2, S6, fin _ _ (k _ _ ?_), o5, o6, h0, h6⟩
    simp [e5, e6, lim]
  by_cases c0 : d = 0
  · subst c0
    obtain ⟨n, S4, e4, hn, h4⟩ := draw (os := os) (m := 4) h3 (by omega) (by omega)
    have e4' : f_law_draw [.ref 0, .int 4] (S3 ++ os) = ok (.int (n : Int)) (S4 ++ os) := e4
    obtain ⟨m, S5, e5, hm, h5⟩ := draw (os := os) (m := 5) h4 (by omega) (by omega)
    have e5' : f_law_draw [.ref 0, .int 5] (S4 ++ os) = ok (.int (m : Int)) (S5 ++ os) := e5
    refine go (9 + n) (1 + m) S5 h5 (by omega) (by omega) (fun _ => by omega) fun x S6 e => ?_
    unfold m_law_orders
    rw [seq_nx (s1 := [some (.ref 0), some (nV 0), none, none]) (h1 := S1 ++ os) (by simp [e1']), seq_nx (s1 := [some (.ref 0), some (nV 0), some (nV (1 + n0)), none]) (h1 := S2 ++ os) (by simp [e2']), seq_nx (s1 := [some (.ref 0), some (nV 0), some (nV (1 + n0)), some (nV (1 + m0))]) (h1 := S3 ++ os) (by simp [e3']),
      seq_nx (s1 := [some (.ref 0), some (nV 0), some (nV (9 + n)), some (nV (1 + m))]) (h1 := S5 ++ os) (by simp [eqB, e4', e5', lim]), seq_nx (s1 := [some (.ref 0), some (nV 0), some (nV (9 + n)), some (nV (1 + m))]) (h1 := S5 ++ os) (by simp [eqB]), seq_nx (s1 := [some (.ref 0), some (nV 0), some (nV (9 + n)), some (nV (1 + m))]) (h1 := S5 ++ os) (by simp [eqB])]
    exact e
  by_cases c1 : d = 1
  · subst c1
    obtain ⟨n, S4, e4, hn, h4⟩ := draw (os := os) (m := 5) h3 (by omega) (by omega)
    have e4' : f_law_draw [.ref 0, .int 5] (S3 ++ os) = ok (.int (n : Int)) (S4 ++ os) := e4
    obtain ⟨m, S5, e5, hm, h5⟩ := draw (os := os) (m := 4) h4 (by omega) (by omega)
    have e5' : f_law_draw [.ref 0, .int 4] (S4 ++ os) = ok (.int (m : Int)) (S5 ++ os) := e5
    refine go (1 + n) (9 + m) S5 h5 (by omega) (by omega) (fun _ => by omega) fun x S6 e => ?_
    unfold m_law_orders
    rw [seq_nx (s1 := [some (.ref 0), some (nV 1), none, none]) (h1 := S1 ++ os) (by simp [e1']), seq_nx (s1 := [some (.ref 0), some (nV 1), some (nV (1 + n0)), none]) (h1 := S2 ++ os) (by simp [e2']), seq_nx (s1 := [some (.ref 0), some (nV 1), some (nV (1 + n0)), some (nV (1 + m0))]) (h1 := S3 ++ os) (by simp [e3']),
      seq_nx (s1 := [some (.ref 0), some (nV 1), some (nV (1 + n0)), some (nV (1 + m0))]) (h1 := S3 ++ os) (by simp [eqB]), seq_nx (s1 := [some (.ref 0), some (nV 1), some (nV (1 + n)), some (nV (9 + m))]) (h1 := S5 ++ os) (by simp [eqB, e4', e5', lim]), seq_nx (s1 := [some (.ref 0), some (nV 1), some (nV (1 + n)), some (nV (9 + m))]) (h1 := S5 ++ os) (by simp [eqB])]
    exact e
  have c0' : ¬ ((d : Int) = 0) := by omega
  have c1' : ¬ ((d : Int) = 1) := by omega
  by_cases c2 : d = 2
  · subst c2
    obtain ⟨m, S4, e4, hm, h4⟩ := draw (os := os) (m := 6) h3 (by omega) (by omega)
    have e4' : f_law_draw [.ref 0, .int 6] (S3 ++ os) = ok (.int (m : Int)) (S4 ++ os) := e4
    refine go 0 m S4 h4 (by omega) (by omega) (fun z => absurd z (by omega)) fun x S6 e => ?_
    unfold m_law_orders
    rw [seq_nx (s1 := [some (.ref 0), some (nV 2), none, none]) (h1 := S1 ++ os) (by simp [e1']), seq_nx (s1 := [some (.ref 0), some (nV 2), some (nV (1 + n0)), none]) (h1 := S2 ++ os) (by simp [e2']), seq_nx (s1 := [some (.ref 0), some (nV 2), some (nV (1 + n0)), some (nV (1 + m0))]) (h1 := S3 ++ os) (by simp [e3']),
      seq_nx (s1 := [some (.ref 0), some (nV 2), some (nV (1 + n0)), some (nV (1 + m0))]) (h1 := S3 ++ os) (by simp [eqB]), seq_nx (s1 := [some (.ref 0), some (nV 2), some (nV (1 + n0)), some (nV (1 + m0))]) (h1 := S3 ++ os) (by simp [eqB]), seq_nx (s1 := [some (.ref 0), some (nV 2), some (nV 0), some (nV m)]) (h1 := S4 ++ os) (by simp [eqB, e4', lim])]
    exact e
  · have c2' : ¬ ((d : Int) = 2) := by omega
    refine go (1 + n0) (1 + m0) S3 h3 (by omega) (by omega) (fun _ => by omega) fun x S6 e => ?_
    unfold m_law_orders
    rw [seq_nx (s1 := [some (.ref 0), some (nV d), none, none]) (h1 := S1 ++ os) (by simp [e1']), seq_nx (s1 := [some (.ref 0), some (nV d), some (nV (1 + n0)), none]) (h1 := S2 ++ os) (by simp [e2']), seq_nx (s1 := [some (.ref 0), some (nV d), some (nV (1 + n0)), some (nV (1 + m0))]) (h1 := S3 ++ os) (by simp [e3']),
      seq_nx (s1 := [some (.ref 0), some (nV d), some (nV (1 + n0)), some (nV (1 + m0))]) (h1 := S3 ++ os) (by simp [eqB, c0]), seq_nx (s1 := [some (.ref 0), some (nV d), some (nV (1 + n0)), some (nV (1 + m0))]) (h1 := S3 ++ os) (by simp [eqB, c1']), seq_nx (s1 := [some (.ref 0), some (nV d), some (nV (1 + n0)), some (nV (1 + m0))]) (h1 := S3 ++ os) (by simp [eqB, c2'])]
    exact e
theorem plB_due {n m : Nat} {f g : Nat → Nat → Bool} {r q : List Nat} (hn : n ≤ 64) (hm : m ≤ 64) : plB 5 (dueV n m f g r q) = true := by
  have ul : (upS n m f g r q).length ≤ 4096 := Nat.le_trans ups_len (Nat.le_trans (Nat.mul_le_mul fib_len (Nat.le_refl m)) (Nat.mul_le_mul hn hm))
  unfold dueV
  by_cases c : leR n g r q = true
  · rw [if_pos c]
    have e : plB 4 (.tup ((upS n m f g r q).map prV)) = true := by
      show (((upS n m f g r q).map prV).all (plB 3) && decide (((upS n m f g r q).map prV).length ≤ 5000)) = true
      rw [List.length_map, decide_eq_true (by omega), Bool.and_true, List.all_eq_true]
      intro x hx
      obtain ⟨i, _, ei⟩ := List.mem_map.mp hx
      rw [← ei]
      rfl
    show ([MV.str "told", .tup ((upS n m f g r q).map prV)].all (plB 4) && decide (([MV.str "told", .tup ((upS n m f g r q).map prV)] : List MV).length ≤ 5000)) = true
    simp [e]
    rfl
  · rw [if_neg c]
    rfl
abbrev rowF (r : List Nat) : MV := .fls (r.map nV)
theorem inner {n m : Nat} {f g : Nat → Nat → Bool} {L L2 hi lo ot : List Nat} {h : MH} {fz : MV} {x2 : Option MV} (o1 : Ow n f L) (o2 : Ow m g L2) : ∀ {ps : List (List Nat × List Nat)} {b : Bool}, (∀ p ∈ ps, Mp n m p.1 ∧ Mp n m p.2) → ∃ b' : Bool,
    forS (turnM (unp [9, 10]) b1_law) (ps.map fun p => .tup [rowF p.1, rowF p.2]) [some fz, some (.ref 0), x2, some (owV n f L), some (owV m g L2), some (rowF hi), some (rowF lo), some (rowF ot), some (.bl b), none, none] h =
      some (.nx [some fz, some (.ref 0), x2, some (owV n f L), some (owV m g L2), some (rowF hi), some (rowF lo), some (rowF ot), some (.bl b'), none, none] h)
  | [], b, _ => ⟨b, rfl⟩
  | p :: ps, b, hp => by
    obtain ⟨h1, h2⟩ := hp p (List.mem_cons_self ..)
    have e1 := asked (b := b) (h := h) o1 o2 h1 h2
    have e2 := due (h := h) o1 o2 h1 h2
    have e3 := same (h := h) (plB_due (f := f) (g := g) (r := p.1) (q := p.2) o1.le o2.le)
    obtain ⟨b', e⟩ := inner (hi := hi) (lo := lo) (ot := ot) (h := h) (fz := fz) (x2 := x2) o1 o2 (ps := ps) (b := !b) fun p' hp' => hp p' (List.mem_cons_of_mem _ hp')
    refine ⟨b', ?_⟩
    rw [List.map_cons]
    refine (forS_nx (s1 := [some fz, some (.ref 0), x2, some (owV n f L), some (owV m g L2), some (rowF hi), some (rowF lo), some (rowF ot), some (.bl (!b)), none, none]) (h1 := h) ?_).trans e
    show b1_law [some fz, some (.ref 0), x2, some (owV n f L), some (owV m g L2), some (rowF hi), some (rowF lo), some (rowF ot), some (.bl b), some (rowF p.1), some (rowF p.2)] h = _
    unfold b1_law wipT
    have A1 := callM_ok (f := f_law_asked) (ds := []) (a := consA (varM 3) (consA (varM 4) (consA (varM 9) (consA (varM 10) (consA (varM 8) nilA))))) (s := [some fz, some (.ref 0), x2, some (owV n f L), some (owV m g L2), some (rowF hi), some (rowF lo), some (rowF ot), some (.bl b), some (rowF p.1), some (rowF p.2)]) (h := h) (xs := [owV n f L, owV m g L2, rowF p.1, rowF p.2, .bl b]) rfl e1
    have A2 := callM_ok (f := f_law_due) (ds := []) (a := consA (varM 3) (consA (varM 4) (consA (varM 9) (consA (varM 10) nilA)))) (s := [some fz, some (.ref 0), x2, some (owV n f L), some (owV m g L2), some (rowF hi), some (rowF lo), some (rowF ot), some (.bl b), some (rowF p.1), some (rowF p.2)]) (h := h) (xs := [owV n f L, owV m g L2, rowF p.1, rowF p.2]) rfl e2
    have s1 : ifS (notT (truM (callM f_law_same [] (consA (callM f_law_asked [] (consA (varM 3) (consA (varM 4) (consA (varM 9) (consA (varM 10) (consA (varM 8) nilA)))))) (consA (callM f_law_due [] (consA (varM 3) (consA (varM 4) (consA (varM 9) (consA (varM 10) nilA))))) nilA))))) (retS (cM (.bl false))) nilS [some fz, some (.ref 0), x2, some (owV n f L), some (owV m g L2), some (rowF hi), some (rowF lo), some (rowF ot), some (.bl b), some (rowF p.1), some (rowF p.2)] h =
        some (.nx [some fz, some (.ref 0), x2, some (owV n f L), some (owV m g L2), some (rowF hi), some (rowF lo), some (rowF ot), some (.bl b), some (rowF p.1), some (rowF p.2)] h) := ifS_f (notcall_t (f := f_law_same) (ds := []) (b := true) (consA_ok A1 (k13.consA_1 A2)) e3)
    rw [seq_nx s1]
    simp
theorem outer {S : MH} {fz : MV} {t : Nat} (hS : St S) : ∃ S', turnM (one 2) b2_law (nV t) [some fz, some (.ref 0), none, none, none, none, none, none, none, none, none] S = some (.nx [some fz, some (.ref 0), none, none, none, none, none, none, none, none, none] S') ∧ St S' := by
  obtain ⟨n, m, f, g, L, L2, S1, e1, o1, o2, nm, h1⟩ := orders_ (os := []) hS
  obtain ⟨a, S2, e2, ra, h2⟩ := map_ (os := []) h1 o1 o2 nm
  obtain ⟨b, S3, e3, rb, _, h3⟩ := lower_ (os := []) h2 o1 o2 ra
  obtain ⟨d, S4, e4, hd, h4⟩ := draw (os := []) (m := 3) h3 (by omega) (by omega)
  simp only [List.append_nil] at e1 e2 e3 e4
  have e4' : f_law_draw [.ref 0, .int 3] S3 = ok (.int (d : Int)) S4 := e4
  -- high, low
  obtain ⟨hi, lo, S5, e5, rh, rl, h5⟩ : ∃ hi lo S5, ifS (tstM (opM eqF (callM f_law_draw [] (consA (varM 1) (consA (cM (.int 3)) nilA))) (cM (.int 0)))) (seqS (setS 6 (varM 5))
    (setS 5 (callM f_law_higher [] (consA (varM 1) (consA (varM 3) (consA (varM 4) (consA (varM 6) nilA))))))) nilS [some fz, some (.ref 0), some (nV t), some (owV n f L), some (owV m g L2), some (rowF a), some (rowF b), none, none, none, none] S3 = some (.nx [some fz, some (.ref 0), some (nV t), some (owV n f L), some (owV m g L2), some (rowF hi), some (rowF lo), none, none, none, none] S5) ∧ Ri n m f g hi ∧ Ri n m f g lo ∧ St S5 := by
    by_cases c : d = 0
    · obtain ⟨w, S5, e5, rw_, _, h5⟩ := higher_ (os := []) h4 o1 o2 ra
      simp only [List.append_nil] at e5
      subst c
      exact ⟨w, a, S5, by simp [e4', eqB, e5], rw_, ra, h5⟩
    · exact ⟨a, b, S4, by simp [e4', eqB, c], ra, rb, h4⟩
  obtain ⟨ot, S6, e6, ro, h6⟩ := map_ (os := []) h5 o1 o2 nm
  obtain ⟨z, S7, e7, hz, h7⟩ := draw (os := []) (m := 2) h6 (by omega) (by omega)
  simp only [List.append_nil] at e6 e7
  have e7' : f_law_draw [.ref 0, .int 2] S6 = ok (.int (z : Int)) S7 := e7
  obtain ⟨b', e8⟩ := inner (h := S7) (hi := hi) (lo := lo) (ot := ot) (fz := fz) (x2 := some (nV t)) (ps := [(lo, hi), (hi, lo), (hi, ot), (ot, lo), (hi, hi), (lo, hi)]) (b := decide ((z : Int) = 1)) o1 o2 (by
    intro p hp
    simp at hp
    rcases hp with h | h | h | h | h | h <;> subst h <;> first | exact ⟨rl.toMp, rh.toMp⟩ | exact ⟨rh.toMp, rl.toMp⟩ | exact ⟨rh.toMp, ro.toMp⟩ | exact ⟨ro.toMp, rl.toMp⟩ | exact ⟨rh.toMp, rh.toMp⟩)
  refine ⟨S7, ?_, h7⟩
  show b2_law [some fz, some (.ref 0), some (nV t), none, none, none, none, none, none, none, none] S = _
  unfold b2_law wipT
  rw [seq_nx (s1 := [some fz, some (.ref 0), some (nV t), some (owV n f L), some (owV m g L2), none, none, none, none, none, none]) (h1 := S1) (by simp [e1]),
    seq_nx (s1 := [some fz, some (.ref 0), some (nV t), some (owV n f L), some (owV m g L2), some (rowF a), none, none, none, none, none]) (h1 := S2) (by simp [e2]),
    seq_nx (s1 := [some fz, some (.ref 0), some (nV t), some (owV n f L), some (owV m g L2), some (rowF a), some (rowF b), none, none, none, none]) (h1 := S3) (by simp [e3])]
  rw [seq_nx e5, seq_nx (s1 := [some fz, some (.ref 0), some (nV t), some (owV n f L), some (owV m g L2), some (rowF hi), some (rowF lo), some (rowF ot), none, none, none]) (h1 := S6) (by simp [e6]),
    seq_nx (s1 := [some fz, some (.ref 0), some (nV t), some (owV n f L), some (owV m g L2), some (rowF hi), some (rowF lo), some (rowF ot), some (.bl (decide ((z : Int) = 1))), none, none]) (h1 := S7) (by simp [e7', eqB])]
  have e9 : preW [9, 10] (forM (seqI (flsM (lstM (consA (tupM (consA (varM 6) (consA (varM 5) nilA))) (consA (tupM (consA (varM 5) (consA (varM 6) nilA))) (consA (tupM (consA (varM 5) (consA (varM 7) nilA))) (consA (tupM (consA (varM 7) (consA (varM 6) nilA))) (consA (tupM (consA (varM 5) (consA (varM 5) nilA))) (consA (tupM (consA (varM 6) (consA (varM 5) nilA))) nilA))))))))) (unp [9, 10]) b1_law) [some fz, some (.ref 0), some (nV t), some (owV n f L), some (owV m g L2), some (rowF hi), some (rowF lo), some (rowF ot), some (.bl (decide ((z : Int) = 1))), none, none] S7 =
      some (.nx [some fz, some (.ref 0), some (nV t), some (owV n f L), some (owV m g L2), some (rowF hi), some (rowF lo), some (rowF ot), some (.bl b'), none, none] S7) := by
    generalize hHI : rowF hi = HI at *
    generalize hLO : rowF lo = LO at *
    generalize hOT : rowF ot = OT at *
    simp only [List.map_cons, List.map_nil, hHI, hLO, hOT] at e8
    simp [lim, e8]
  rw [e9]
  rfl
theorem main : ∀ ns : List Int, ns.length ≤ 63 → ∃ h, f_law [.frz (ns.map MV.int)] [] = ok (.bl true) h := fun ns hns => by
  obtain ⟨S0, e0, h0⟩ := start (h := []) hns
  obtain ⟨S1, e1, _, h1⟩ := for_m (f := nV) (bd := turnM (one 2) b2_law) (xs := List.range 2) (a0 := S0) (fun _ : MH => [some (.frz (ns.map MV.int)), some (.ref 0), none, none, none, none, none, none, none, none, none]) (fun S => S) (fun _ S => True ∧ St S) ⟨trivial, h0⟩ fun i x S _ ⟨_, hS⟩ => by
    obtain ⟨S', e, h'⟩ := outer (fz := .frz (ns.map MV.int)) (t := x) hS
    exact ⟨S', .inl e, trivial, h'⟩
  have e1' : forS (turnM (one 2) b2_law) (runOf 0 2) [some (.frz (ns.map MV.int)), some (.ref 0), none, none, none, none, none, none, none, none, none] S0 = some (.nx [some (.frz (ns.map MV.int)), some (.ref 0), none, none, none, none, none, none, none, none, none] S1) := by
    rw [run_m]
    exact e1
  refine ⟨S1, defM_ret rfl ?_⟩
  show m_law [some (.frz (ns.map MV.int)), none, none, none, none, none, none, none, none, none, none] [] = _
  unfold m_law
  rw [seq_nx (s1 := [some (.frz (ns.map MV.int)), some (.ref 0), none, none, none, none, none, none, none, none, none]) (h1 := S0) (by simp [e0]),
    seq_nx (s1 := [some (.frz (ns.map MV.int)), some (.ref 0), none, none, none, none, none, none, none, none, none]) (h1 := S1) (by simp [e1'])]
  rfl
end Mi.k14
set_option maxHeartbeats 2000000
namespace Mi.k15
open PySem L2
noncomputable section
def m_law_start : MT := (seqS (setS 1 (flsM (lcM (seqI (varM 0)) [2] (one 2) yesT (bltM intF (consA (varM 2) nilA)))))
    (retS (refM (lstM (consA (varM 1) (consA (cM (.int 0)) (consA (cM (.int 0)) (consA (cM (.int 0)) (consA (cM (.int 0)) (consA (flsM (lcM (seqI (varM 1)) [2] (one 2) yesT (opM modF (bltM intF (consA (varM 2) nilA)) (cM (.int 2147483629))))) nilA))))))))))
def f_law_start : MF := defM 1 3 m_law_start
theorem n_law_start : ∀ (xs : List MV) (h : MH), (f_law_start xs h).isSome = true → xs.length = 1 := fun _ _ e => defM_len e
def m_law_mixed : MT := (seqS (setS 2 (opM modF (bltM intF (consA (opM addF (opM addF (opM mulF (varM 0) (cM (.int 48271))) (opM mulF (varM 1) (cM (.int 69621)))) (cM (.int 12345))) nilA)) (cM (.int 2147483647))))
    (seqS (setS 3 (opM modF (bltM intF (consA (opM addF (opM addF (opM mulF (varM 2) (varM 2)) (opM mulF (varM 1) (cM (.int 40692)))) (opM divF (varM 2) (cM (.int 7)))) nilA)) (cM (.int 2147483399))))
    (retS (opM modF (bltM intF (consA (opM addF (opM addF (opM mulF (varM 3) (cM (.int 16807))) (opM divF (varM 3) (cM (.int 1013)))) (varM 1)) nilA)) (cM (.int 998244353))))))
def f_law_mixed : MF := defM 2 4 m_law_mixed
theorem n_law_mixed : ∀ (xs : List MV) (h : MH), (f_law_mixed xs h).isSome = true → xs.length = 2 := fun _ _ e => defM_len e
def m_law_draw : MT := (seqS (subS (opM addF (opM ixF (varM 0) (cM (.int 4))) (cM (.int 1))) (varM 0) (cM (.int 4)))
    (seqS (setS 2 (opM ixF (varM 0) (cM (.int 4))))
    (seqS (ifS (orT (tstM (opM eqF (opM ixF (varM 0) (cM (.int 2))) (cM (.int 0)))) (tstM (opM eqF (opM ixF (varM 0) (cM (.int 3))) (cM (.int 0))))) (seqS (ifS (tstM (opM geF (opM ixF (varM 0) (cM (.int 1))) (bltM lenF (consA (opM ixF (varM 0) (cM (.int 0))) nilA)))) (seqS (setS 3 (cM (.int 0)))
    (seqS (ifS (tstM (opM gtF (bltM lenF (consA (opM ixF (varM 0) (cM (.int 5))) nilA)) (cM (.int 0)))) (setS 3 (opM ixF (opM ixF (varM 0) (cM (.int 5))) (opM modF (bltM intF (consA (varM 2) nilA)) (bltM lenF (consA (opM ixF (varM 0) (cM (.int 5))) nilA))))) nilS)
    (retS (opM modF (bltM intF (consA (callM f_law_mixed [] (consA (varM 3) (consA (varM 2) nilA))) nilA)) (varM 1))))) nilS)
    (seqS (setS 4 (opM ixF (opM ixF (varM 0) (cM (.int 0))) (opM ixF (varM 0) (cM (.int 1)))))
    (seqS (subS (opM addF (opM ixF (varM 0) (cM (.int 1))) (cM (.int 1))) (varM 0) (cM (.int 1)))
    (seqS (ifS (orT (tstM (opM ltF (varM 4) (cM (.int 2)))) (tstM (opM eqF (opM modF (bltM intF (consA (varM 4) nilA)) (cM (.int 2))) (cM (.int 1))))) (retS (opM modF (bltM intF (consA (callM f_law_mixed [] (consA (opM ixF (opM ixF (varM 0) (cM (.int 5))) (opM subF (opM ixF (varM 0) (cM (.int 1))) (cM (.int 1)))) (consA (varM 2) nilA))) nilA)) (varM 1))) nilS)
    (seqS (subS (opM divF (varM 4) (cM (.int 2))) (varM 0) (cM (.int 2)))
    (subS (cM (.int 60)) (varM 0) (cM (.int 3)))))))) nilS)
    (seqS (setS 5 (opM modF (bltM intF (consA (opM ixF (varM 0) (cM (.int 2))) nilA)) (varM 1)))
    (seqS (subS (opM divF (opM ixF (varM 0) (cM (.int 2))) (varM 1)) (varM 0) (cM (.int 2)))
    (seqS (subS (opM subF (opM ixF (varM 0) (cM (.int 3))) (cM (.int 1))) (varM 0) (cM (.int 3)))
    (retS (varM 5))))))))
def f_law_draw : MF := defM 2 6 m_law_draw
theorem n_law_draw : ∀ (xs : List MV) (h : MH), (f_law_draw xs h).isSome = true → xs.length = 2 := fun _ _ e => defM_len e
def b1_law_same (r : MF) : MT := (wipT [2] (ifS (notT (truM (callM r [] (consA (opM ixF (varM 0) (varM 2)) (consA (opM ixF (varM 1) (varM 2)) nilA))))) (retS (cM (.bl false))) nilS))
def m_law_same (r : MF) : MT := (seqS (ifS (orT (truM (isiM [.tuple] (varM 1))) (truM (isiM [.list] (varM 1)))) (seqS (ifS (orT (tstM (opM neF (isiM [.tuple] (varM 1)) (isiM [.tuple] (varM 0)))) (tstM (opM neF (isiM [.list] (varM 1)) (isiM [.list] (varM 0))))) (retS (cM (.bl false))) nilS)
    (seqS (ifS (tstM (opM neF (bltM lenF (consA (varM 0) nilA)) (bltM lenF (consA (varM 1) nilA)))) (retS (cM (.bl false))) nilS)
    (seqS (preW [2] (forM (rng1 (consA (bltM lenF (consA (varM 1) nilA)) nilA)) (one 2) (b1_law_same r)))
    (retS (cM (.bl true)))))) nilS)
    (seqS (ifS (tstM (opM isF (varM 1) (cM .non))) (retS (opM isF (varM 0) (cM .non))) nilS)
    (seqS (ifS (truM (isiM [.bool] (varM 1))) (retS (andV (isiM [.bool] (varM 0)) (opM eqF (varM 0) (varM 1)))) nilS)
    (seqS (ifS (truM (isiM [.int] (varM 1))) (retS (andV (isiM [.int] (varM 0)) (andV (notV (isiM [.bool] (varM 0))) (opM eqF (varM 0) (varM 1))))) nilS)
    (retS (andV (isiM [.str] (varM 0)) (opM eqF (varM 0) (varM 1))))))))
def fr_law_same : Nat → MF
  | 0 => fun _ _ => none
  | k + 1 => defM 2 3 (m_law_same (fr_law_same k))
def f_law_same : MF := fr_law_same 6
theorem nr_law_same : ∀ (k : Nat) (xs : List MV) (h : MH), (fr_law_same k xs h).isSome = true → xs.length = 2
  | 0, _, _, e => by cases e
  | _ + 1, _, _, e => defM_len e
theorem n_law_same : ∀ (xs : List MV) (h : MH), (f_law_same xs h).isSome = true → xs.length = 2 := nr_law_same _
def m_law_at_most : MT := (retS (orV (opM eqF (varM 1) (varM 2)) (opM ixF (opM ixF (varM 0) (varM 1)) (varM 2))))
def f_law_at_most : MF := defM 3 3 m_law_at_most
theorem n_law_at_most : ∀ (xs : List MV) (h : MH), (f_law_at_most xs h).isSome = true → xs.length = 3 := fun _ _ e => defM_len e
def b1_law_map : MT := (wipT [6, 7, 9, 12] (seqS (setS 7 (flsM (lcM (rng1 (consA (varM 3) nilA)) [8] (one 8) (truM (opM ixF (opM ixF (opM ixF (varM 1) (cM (.int 1))) (varM 8)) (varM 6))) (opM ixF (varM 5) (varM 8)))))
    (seqS (setS 9 (flsM (lcM (rng1 (consA (varM 4) nilA)) [10] (one 10) (tstM (opM eqF (bltM lenF (consA (flsM (lcM (seqI (varM 7)) [11] (one 11) (notT (truM (callM f_law_at_most [] (consA (opM ixF (varM 2) (cM (.int 1))) (consA (varM 11) (consA (varM 10) nilA)))))) (varM 11))) nilA)) (cM (.int 0)))) (varM 10))))
    (seqS (ifS (tstM (opM eqF (bltM lenF (consA (varM 9) nilA)) (cM (.int 0)))) (seqS (setS 12 (callM f_law_draw [] (consA (varM 0) (consA (varM 4) nilA))))
    (retS (flsM (repL (flsM (lstM (consA (varM 12) nilA))) (varM 3))))) nilS)
    (subS (opM ixF (varM 9) (callM f_law_draw [] (consA (varM 0) (consA (bltM lenF (consA (varM 9) nilA)) nilA)))) (varM 5) (varM 6))))))
def m_law_map : MT := (seqS (setS 3 (bltM lenF (consA (opM ixF (varM 1) (cM (.int 1))) nilA)))
    (seqS (setS 4 (bltM lenF (consA (opM ixF (varM 2) (cM (.int 1))) nilA)))
    (seqS (setS 5 (refM (repL (flsM (lstM (consA (cM (.int 0)) nilA))) (varM 3))))
    (seqS (preW [6, 7, 9, 12] (forM (seqI (opM ixF (varM 1) (cM (.int 2)))) (one 6) b1_law_map))
    (retS (frzM (varM 5)))))))
def f_law_map : MF := cutF (defM 3 13 m_law_map)
theorem n_law_map : ∀ (xs : List MV) (h : MH), (f_law_map xs h).isSome = true → xs.length = 3 := cut_len fun _ _ e => defM_len e
def b1_law_lower : MT := (wipT [7, 8, 10] (seqS (setS 8 (flsM (lcM (rng1 (consA (varM 4) nilA)) [9] (one 9) (truM (opM ixF (opM ixF (opM ixF (varM 1) (cM (.int 1))) (varM 9)) (varM 7))) (opM ixF (varM 6) (varM 9)))))
    (seqS (setS 10 (flsM (lcM (rng1 (consA (bltM lenF (consA (varM 5) nilA)) nilA)) [11] (one 11) (truM (callM f_law_at_most [] (consA (varM 5) (consA (varM 11) (consA (opM ixF (varM 3) (varM 7)) nilA))))) (varM 11))))
    (seqS (setS 10 (flsM (lcM (seqI (varM 10)) [11] (one 11) (tstM (opM eqF (bltM lenF (consA (flsM (lcM (seqI (varM 8)) [12] (one 12) (notT (truM (callM f_law_at_most [] (consA (varM 5) (consA (varM 12) (consA (varM 11) nilA)))))) (varM 12))) nilA)) (cM (.int 0)))) (varM 11))))
    (subS (opM ixF (varM 10) (callM f_law_draw [] (consA (varM 0) (consA (bltM lenF (consA (varM 10) nilA)) nilA)))) (varM 6) (varM 7))))))
def m_law_lower : MT := (seqS (setS 4 (bltM lenF (consA (opM ixF (varM 1) (cM (.int 1))) nilA)))
    (seqS (setS 5 (opM ixF (varM 2) (cM (.int 1))))
    (seqS (setS 6 (refM (repL (flsM (lstM (consA (cM (.int 0)) nilA))) (varM 4))))
    (seqS (preW [7, 8, 10] (forM (seqI (opM ixF (varM 1) (cM (.int 2)))) (one 7) b1_law_lower))
    (retS (frzM (varM 6)))))))
def f_law_lower : MF := cutF (defM 4 13 m_law_lower)
theorem n_law_lower : ∀ (xs : List MV) (h : MH), (f_law_lower xs h).isSome = true → xs.length = 4 := cut_len fun _ _ e => defM_len e
def b1_law_higher : MT := (wipT [7, 8, 10] (seqS (setS 8 (flsM (lcM (rng1 (consA (varM 4) nilA)) [9] (one 9) (truM (opM ixF (opM ixF (opM ixF (varM 1) (cM (.int 1))) (varM 7)) (varM 9))) (opM ixF (varM 6) (varM 9)))))
    (seqS (setS 10 (flsM (lcM (rng1 (consA (bltM lenF (consA (varM 5) nilA)) nilA)) [11] (one 11) (truM (callM f_law_at_most [] (consA (varM 5) (consA (opM ixF (varM 3) (varM 7)) (consA (varM 11) nilA))))) (varM 11))))
    (seqS (setS 10 (flsM (lcM (seqI (varM 10)) [11] (one 11) (tstM (opM eqF (bltM lenF (consA (flsM (lcM (seqI (varM 8)) [12] (one 12) (notT (truM (callM f_law_at_most [] (consA (varM 5) (consA (varM 11) (consA (varM 12) nilA)))))) (varM 12))) nilA)) (cM (.int 0)))) (varM 11))))
    (subS (opM ixF (varM 10) (callM f_law_draw [] (consA (varM 0) (consA (bltM lenF (consA (varM 10) nilA)) nilA)))) (varM 6) (varM 7))))))
def m_law_higher : MT := (seqS (setS 4 (bltM lenF (consA (opM ixF (varM 1) (cM (.int 1))) nilA)))
    (seqS (setS 5 (opM ixF (varM 2) (cM (.int 1))))
    (seqS (setS 6 (refM (repL (flsM (lstM (consA (cM (.int 0)) nilA))) (varM 4))))
    (seqS (preW [7, 8, 10] (forM (seqI (flsM (rvsL (opM ixF (varM 1) (cM (.int 2)))))) (one 7) b1_law_higher))
    (retS (frzM (varM 6)))))))
def f_law_higher : MF := cutF (defM 4 13 m_law_higher)
theorem n_law_higher : ∀ (xs : List MV) (h : MH), (f_law_higher xs h).isSome = true → xs.length = 4 := cut_len fun _ _ e => defM_len e
def m_law_lows : MT := (seqS (ifS (tstM (opM eqF (bltM lenF (consA (varM 1) nilA)) (cM (.int 0)))) (retS (flsM (lstM nilA))) nilS)
    (seqS (setS 3 (opM ixF (varM 1) (callM f_law_draw [] (consA (varM 0) (consA (bltM lenF (consA (varM 1) nilA)) nilA)))))
    (seqS (ifS (tstM (opM ltF (varM 2) (cM (.int 2)))) (retS (flsM (repL (flsM (lstM (consA (varM 3) nilA))) (bltM intF (consA (opM geF (callM f_law_draw [] (consA (varM 0) (consA (cM (.int 6)) nilA))) (opM ixF (flsM (lstM (consA (cM (.int 4)) (consA (cM (.int 1)) nilA)))) (varM 2))) nilA))))) nilS)
    (seqS (ifS (tstM (opM eqF (varM 2) (cM (.int 2)))) (retS (flsM (lcM (seqI (sliT (varM 1) noO (someO (cM (.int 3))))) [4] (one 4) (tstM (opM eqF (callM f_law_draw [] (consA (varM 0) (consA (cM (.int 2)) nilA))) (cM (.int 0)))) (varM 4)))) nilS)
    (seqS (ifS (tstM (opM eqF (varM 2) (cM (.int 3)))) (retS (sliT (varM 1) (someO (unM negF (cM (.int 1)))) noO)) nilS)
    (retS (flsM (catL (flsM (lstM (consA (varM 3) nilA))) (flsM (lcM (rng1 (consA (callM f_law_draw [] (consA (varM 0) (consA (opM subF (varM 2) (cM (.int 2))) nilA))) nilA)) [5] (one 5) yesT (opM ixF (varM 1) (callM f_law_draw [] (consA (varM 0) (consA (bltM lenF (consA (varM 1) nilA)) nilA))))))))))))))
def f_law_lows : MF := defM 3 6 m_law_lows
theorem n_law_lows : ∀ (xs : List MV) (h : MH), (f_law_lows xs h).isSome = true → xs.length = 3 := fun _ _ e => defM_len e
def b1_law_order : MT := (wipT [4] (dropS (mthM insF (varM 3) (consA (callM f_law_draw [] (consA (varM 0) (consA (opM addF (varM 4) (cM (.int 1))) nilA))) (consA (varM 4) nilA)))))
def b2_law_order : MT := (wipT [7, 10] (ifS (orT (tstM (opM eqF (varM 7) (varM 9))) (truM (opM ixF (opM ixF (varM 6) (varM 7)) (varM 9)))) (seqS (setS 10 (opM ixF (varM 6) (varM 7)))
    (subS (cM (.bl true)) (varM 10) (varM 8))) nilS))
def b3_law_order : MT := (wipT [7, 9, 10] (preW [7, 10] (forM (rng1 (consA (varM 1) nilA)) (one 7) b2_law_order)))
def b4_law_order : MT := (wipT [4, 7, 8, 9, 10] (seqS (setS 8 (opM ixF (varM 3) (varM 4)))
    (preW [7, 9, 10] (forM (seqI (callM f_law_lows [] (consA (varM 0) (consA (sliT (varM 3) noO (someO (varM 4))) (consA (varM 5) nilA))))) (one 9) b3_law_order))))
def b5_law_order : MT := (wipT [7] (setS 11 (flsM (catL (varM 11) (flsM (lcM (rng1 (consA (varM 1) nilA)) [8] (one 8) (truM (opM ixF (opM ixF (varM 6) (varM 7)) (varM 8))) (tupM (consA (varM 7) (consA (varM 8) nilA)))))))))
def m_law_order : MT := (seqS (setS 3 (refM (lstM nilA)))
    (seqS (preW [4] (forM (rng1 (consA (varM 1) nilA)) (one 4) b1_law_order))
    (seqS (setS 5 (opM ixF (varM 2) (callM f_law_draw [] (consA (varM 0) (consA (bltM lenF (consA (varM 2) nilA)) nilA)))))
    (seqS (setS 6 (refM (lcM (rng1 (consA (varM 1) nilA)) [7] (one 7) yesT (refM (repL (flsM (lstM (consA (cM (.bl false)) nilA))) (varM 1))))))
    (seqS (preW [4, 7, 8, 9, 10] (forM (rng1 (consA (varM 1) nilA)) (one 4) b4_law_order))
    (seqS (setS 11 (flsM (lstM nilA)))
    (seqS (preW [7] (forM (rng1 (consA (varM 1) nilA)) (one 7) b5_law_order))
    (seqS (setS 12 (flsM (lcM (rng1 (consA (varM 1) nilA)) [7] (one 7) yesT (flsM (lcM (rng1 (consA (varM 1) nilA)) [8] (one 8) (orT (truM (opM ixF (opM ixF (varM 6) (varM 7)) (varM 8))) (truM (opM ixF (opM ixF (varM 6) (varM 8)) (varM 7)))) (varM 8))))))
    (retS (tupM (consA (tupM (consA (varM 1) (consA (bltM tupF (consA (varM 11) nilA)) nilA))) (consA (frzM (varM 6)) (consA (frzM (varM 3)) (consA (varM 12) nilA))))))))))))))
def f_law_order : MF := cutF (defM 3 13 m_law_order)
theorem n_law_order : ∀ (xs : List MV) (h : MH), (f_law_order xs h).isSome = true → xs.length = 3 := cut_len fun _ _ e => defM_len e
def m_law_orders : MT := (seqS (setS 1 (callM f_law_draw [] (consA (varM 0) (consA (cM (.int 20)) nilA))))
    (seqS (setS 2 (opM addF (cM (.int 1)) (callM f_law_draw [] (consA (varM 0) (consA (cM (.int 8)) nilA)))))
    (seqS (setS 3 (opM addF (cM (.int 1)) (callM f_law_draw [] (consA (varM 0) (consA (cM (.int 8)) nilA)))))
    (seqS (ifS (tstM (opM eqF (varM 1) (cM (.int 0)))) (asgS (unpL [2, 3]) (flsM (lstM (consA (opM addF (cM (.int 9)) (callM f_law_draw [] (consA (varM 0) (consA (cM (.int 4)) nilA)))) (consA (opM addF (cM (.int 1)) (callM f_law_draw [] (consA (varM 0) (consA (cM (.int 5)) nilA)))) nilA))))) nilS)
    (seqS (ifS (tstM (opM eqF (varM 1) (cM (.int 1)))) (asgS (unpL [2, 3]) (flsM (lstM (consA (opM addF (cM (.int 1)) (callM f_law_draw [] (consA (varM 0) (consA (cM (.int 5)) nilA)))) (consA (opM addF (cM (.int 9)) (callM f_law_draw [] (consA (varM 0) (consA (cM (.int 4)) nilA)))) nilA))))) nilS)
    (seqS (ifS (tstM (opM eqF (varM 1) (cM (.int 2)))) (asgS (unpL [2, 3]) (flsM (lstM (consA (cM (.int 0)) (consA (callM f_law_draw [] (consA (varM 0) (consA (cM (.int 6)) nilA))) nilA))))) nilS)
    (retS (tupM (consA (callM f_law_order [] (consA (varM 0) (consA (varM 2) (consA (tupM (consA (cM (.int 0)) (consA (cM (.int 1)) (consA (cM (.int 2)) (consA (cM (.int 3)) (consA (cM (.int 4)) (consA (cM (.int 5)) nilA))))))) nilA)))) (consA (callM f_law_order [] (consA (varM 0) (consA (varM 3) (consA (tupM (consA (cM (.int 0)) (consA (cM (.int 1)) (consA (cM (.int 2)) (consA (cM (.int 3)) (consA (cM (.int 4)) (consA (cM (.int 5)) nilA))))))) nilA)))) nilA))))))))))
def f_law_orders : MF := defM 1 4 m_law_orders
theorem n_law_orders : ∀ (xs : List MV) (h : MH), (f_law_orders xs h).isSome = true → xs.length = 1 := fun _ _ e => defM_len e
def m_lowest_in : MT := (seqS (setS 1 (opM andF (varM 0) (unM negF (varM 0))))
    (retS (opM subF (bitsM (varM 1)) (cM (.int 1)))))
def f_lowest_in : MF := defM 1 2 m_lowest_in
theorem n_lowest_in : ∀ (xs : List MV) (h : MH), (f_lowest_in xs h).isSome = true → xs.length = 1 := fun _ _ e => defM_len e
def b1_high_masks : MT := (wipT [4, 5] (subS (opM orF (opM ixF (varM 3) (varM 4)) (opM shlF (cM (.int 1)) (varM 5))) (varM 3) (varM 4)))
def m_high_masks : MT := (seqS (asgS (unp [1, 2]) (varM 0))
    (seqS (setS 3 (refM (repL (flsM (lstM (consA (cM (.int 0)) nilA))) (varM 1))))
    (seqS (preW [4, 5] (forM (seqI (varM 2)) (unp [4, 5]) b1_high_masks))
    (retS (bltM tupF (consA (varM 3) nilA))))))
def f_high_masks : MF := cutF (defM 1 6 m_high_masks)
theorem n_high_masks : ∀ (xs : List MV) (h : MH), (f_high_masks xs h).isSome = true → xs.length = 1 := cut_len fun _ _ e => defM_len e
def b1_low_masks : MT := (wipT [4, 5] (subS (opM orF (opM ixF (varM 3) (varM 5)) (opM shlF (cM (.int 1)) (varM 4))) (varM 3) (varM 5)))
def m_low_masks : MT := (seqS (asgS (unp [1, 2]) (varM 0))
    (seqS (setS 3 (refM (repL (flsM (lstM (consA (cM (.int 0)) nilA))) (varM 1))))
    (seqS (preW [4, 5] (forM (seqI (varM 2)) (unp [4, 5]) b1_low_masks))
    (retS (bltM tupF (consA (varM 3) nilA))))))
def f_low_masks : MF := cutF (defM 1 6 m_low_masks)
theorem n_low_masks : ∀ (xs : List MV) (h : MH), (f_low_masks xs h).isSome = true → xs.length = 1 := cut_len fun _ _ e => defM_len e
def m_at_most_masks : MT := (retS (bltM tupF (consA (flsM (lcM (enmI (consA (callM f_low_masks [] (consA (varM 0) nilA)) nilA)) [1, 2] (unp [1, 2]) yesT (opM orF (varM 2) (opM shlF (cM (.int 1)) (varM 1))))) nilA)))
def f_at_most_masks : MF := defM 1 3 m_at_most_masks
theorem n_at_most_masks : ∀ (xs : List MV) (h : MH), (f_at_most_masks xs h).isSome = true → xs.length = 1 := fun _ _ e => defM_len e
def m_covers : MT := (seqS (setS 1 (callM f_high_masks [] (consA (varM 0) nilA)))
    (seqS (setS 2 (callM f_low_masks [] (consA (varM 0) nilA)))
    (retS (bltM tupF (consA (flsM (lcM (seqI (opM ixF (varM 0) (cM (.int 1)))) [3, 4] (unp [3, 4]) (tstM (opM eqF (opM andF (opM ixF (varM 1) (varM 3)) (opM ixF (varM 2) (varM 4))) (cM (.int 0)))) (tupM (consA (varM 3) (consA (varM 4) nilA))))) nilA)))))
def f_covers : MF := defM 1 5 m_covers
theorem n_covers : ∀ (xs : List MV) (h : MH), (f_covers xs h).isSome = true → xs.length = 1 := fun _ _ e => defM_len e
def b1_is_below : MT := (wipT [6] (seqS (setS 6 (opM divF (opM addF (varM 4) (varM 5)) (cM (.int 2))))
    (ifS (tstM (opM ltAF (opM ixF (varM 3) (varM 6)) (tupM (consA (varM 1) (consA (varM 2) nilA))))) (setS 4 (opM addF (varM 6) (cM (.int 1)))) (setS 5 (varM 6)))))
def m_is_below : MT := (seqS (setS 3 (opM ixF (varM 0) (cM (.int 1))))
    (seqS (setS 4 (cM (.int 0)))
    (seqS (setS 5 (bltM lenF (consA (varM 3) nilA)))
    (seqS (preW [6] (whlG (tstM (opM ltF (varM 4) (varM 5))) b1_is_below 5000))
    (retS (andV (opM ltF (varM 4) (bltM lenF (consA (varM 3) nilA))) (opM eqF (opM ixF (varM 3) (varM 4)) (tupM (consA (varM 1) (consA (varM 2) nilA))))))))))
def f_is_below : MF := defM 3 7 m_is_below
theorem n_is_below : ∀ (xs : List MV) (h : MH), (f_is_below xs h).isSome = true → xs.length = 3 := fun _ _ e => defM_len e
def b1_at_most : MT := (wipT [3, 4] (ifS (andT (tstM (opM neF (varM 4) (opM ixF (varM 2) (varM 3)))) (notT (truM (callM f_is_below [] (consA (varM 0) (consA (varM 4) (consA (opM ixF (varM 2) (varM 3)) nilA))))))) (retS (cM (.bl false))) nilS))
def m_at_most : MT := (seqS (preW [3, 4] (forM (enmI (consA (varM 1) nilA)) (unp [3, 4]) b1_at_most))
    (retS (cM (.bl true))))
def f_at_most : MF := defM 3 5 m_at_most
theorem n_at_most : ∀ (xs : List MV) (h : MH), (f_at_most xs h).isSome = true → xs.length = 3 := fun _ _ e => defM_len e
def b1_points_in : MT := (wipT [2] (seqS (setS 2 (opM andF (varM 0) (unM negF (varM 0))))
    (seqS (dropS (mthM appF (varM 1) (consA (opM subF (bitsM (varM 2)) (cM (.int 1))) nilA)))
    (setS 0 (opM subF (varM 0) (varM 2))))))
def m_points_in : MT := (seqS (setS 1 (refM (lstM nilA)))
    (seqS (preW [2] (whlG (truM (varM 0)) b1_points_in 70))
    (retS (bltM tupF (consA (varM 1) nilA)))))
def f_points_in : MF := cutF (defM 1 3 m_points_in)
theorem n_points_in : ∀ (xs : List MV) (h : MH), (f_points_in xs h).isSome = true → xs.length = 1 := cut_len fun _ _ e => defM_len e
def b1_top_of : MT := (wipT [2] (ifS (tstM (opM eqF (opM andF (opM ixF (varM 1) (varM 2)) (varM 0)) (cM (.int 0)))) (retS (varM 2)) nilS))
def m_top_of : MT := (seqS (preW [2] (forM (seqI (callM f_points_in [] (consA (varM 0) nilA))) (one 2) b1_top_of))
    (retS (cM .non)))
def f_top_of : MF := defM 2 3 m_top_of
theorem n_top_of : ∀ (xs : List MV) (h : MH), (f_top_of xs h).isSome = true → xs.length = 2 := fun _ _ e => defM_len e
def b1_steps_up : MT := (wipT [9, 10] (ifS (tstM (opM neF (varM 10) (opM ixF (varM 3) (varM 9)))) (setS 8 (opM orF (varM 8) (opM shlF (cM (.int 1)) (varM 9)))) nilS))
def b2_steps_up : MT := (wipT [9] (seqS (setS 9 (callM f_top_of [] (consA (varM 8) (consA (varM 4) nilA))))
    (seqS (subS (callM f_lowest_in [] (consA (opM andF (opM ixF (varM 5) (opM ixF (varM 7) (varM 9))) (opM ixF (varM 6) (opM ixF (varM 3) (varM 9)))) nilA)) (varM 7) (varM 9))
    (seqS (dropS (mthM appF (varM 11) (consA (tupM (consA (varM 9) (consA (opM ixF (varM 7) (varM 9)) nilA))) nilA)))
    (ifS (tstM (opM eqF (opM ixF (varM 7) (varM 9)) (opM ixF (varM 3) (varM 9)))) (setS 8 (opM subF (varM 8) (opM shlF (cM (.int 1)) (varM 9)))) nilS)))))
def m_steps_up : MT := (seqS (ifS (notT (truM (callM f_at_most [] (consA (varM 1) (consA (varM 2) (consA (varM 3) nilA)))))) (raiseS "NotAbove" [] nilA) nilS)
    (seqS (setS 4 (callM f_high_masks [] (consA (varM 0) nilA)))
    (seqS (setS 5 (callM f_high_masks [] (consA (tupM (consA (opM ixF (varM 1) (cM (.int 0))) (consA (callM f_covers [] (consA (varM 1) nilA)) nilA))) nilA)))
    (seqS (setS 6 (callM f_at_most_masks [] (consA (varM 1) nilA)))
    (seqS (setS 7 (refM (bltL lstF (consA (varM 2) nilA))))
    (seqS (setS 8 (cM (.int 0)))
    (seqS (preW [9, 10] (forM (enmI (consA (varM 2) nilA)) (unp [9, 10]) b1_steps_up))
    (seqS (setS 11 (refM (lstM nilA)))
    (seqS (preW [9] (whlG (truM (varM 8)) b2_steps_up 5000))
    (retS (bltM tupF (consA (varM 11) nilA))))))))))))
def f_steps_up : MF := cutF (defM 4 12 m_steps_up)
theorem n_steps_up : ∀ (xs : List MV) (h : MH), (f_steps_up xs h).isSome = true → xs.length = 4 := cut_len fun _ _ e => defM_len e
def b1_steps_down : MT := (wipT [6, 7] (seqS (dropS (mthM appF (varM 5) (consA (tupM (consA (varM 6) (consA (opM ixF (varM 4) (varM 6)) nilA))) nilA)))
    (subS (varM 7) (varM 4) (varM 6))))
def m_steps_down : MT := (seqS (setS 4 (refM (bltL lstF (consA (varM 3) nilA))))
    (seqS (setS 5 (refM (lstM nilA)))
    (seqS (preW [6, 7] (forM (seqI (callX f_steps_up [] (consA (varM 0) (consA (varM 1) (consA (varM 3) (consA (varM 2) nilA)))))) (unp [6, 7]) b1_steps_down))
    (retS (bltM tupF (consA (flsM (rvsL (varM 5))) nilA))))))
def f_steps_down : MF := cutF (defM 4 8 m_steps_down)
theorem n_steps_down : ∀ (xs : List MV) (h : MH), (f_steps_down xs h).isSome = true → xs.length = 4 := cut_len fun _ _ e => defM_len e
def m_law_asked : MT := (tryS (seqS (ifS (truM (varM 4)) (retS (tupM (consA (cM (.str "told")) (consA (callKX f_steps_down 0 4 [3, 2, 1, 0] [] nilA (consA (bltM tupF (consA (varM 3) nilA)) (consA (bltM tupF (consA (varM 2) nilA)) (consA (opM ixF (varM 1) (cM (.int 0))) (consA (opM ixF (varM 0) (cM (.int 0))) nilA))))) nilA)))) nilS)
    (retS (tupM (consA (cM (.str "told")) (consA (callX f_steps_down [] (consA (opM ixF (varM 0) (cM (.int 0))) (consA (opM ixF (varM 1) (cM (.int 0))) (consA (bltM tupF (consA (varM 2) nilA)) (consA (bltM tupF (consA (varM 3) nilA)) nilA))))) nilA))))) [("NotAbove", true)] 7 6 (fun nm a d => (seqS (setS 5 (orV (isE 6 a d (List.lookup nm ([("NotAbove", false)] : List (Str × Bool)))) (orV (isE 6 a d (List.lookup nm ([("NotAbove", false)] : List (Str × Bool)))) (isE 6 a d (List.lookup nm ([("NotAbove", false)] : List (Str × Bool)))))))
    (retS (flsM (lstM (consA (cM (.str "above")) (consA (andV (isE 6 a d (List.lookup nm ([("NotAbove", true)] : List (Str × Bool)))) (andV (isE 6 a d (List.lookup nm ([("NotAbove", true)] : List (Str × Bool)))) (notV (varM 5)))) nilA))))))))
def f_law_asked : MF := cutF (defM 5 7 m_law_asked)
theorem n_law_asked : ∀ (xs : List MV) (h : MH), (f_law_asked xs h).isSome = true → xs.length = 5 := cut_len fun _ _ e => defM_len e
def m_law_covers : MT := (retS (andV (opM ixF (opM ixF (varM 0) (varM 1)) (varM 2)) (opM eqF (bltM lenF (consA (flsM (lcM (rng1 (consA (bltM lenF (consA (varM 0) nilA)) nilA)) [3] (one 3) (andT (truM (opM ixF (opM ixF (varM 0) (varM 1)) (varM 3))) (truM (opM ixF (opM ixF (varM 0) (varM 3)) (varM 2)))) (varM 3))) nilA)) (cM (.int 0)))))
def f_law_covers : MF := defM 3 4 m_law_covers
theorem n_law_covers : ∀ (xs : List MV) (h : MH), (f_law_covers xs h).isSome = true → xs.length = 3 := fun _ _ e => defM_len e
def b1_law_next : MT := (wipT [3] (ifS (andT (truM (callM f_law_at_most [] (consA (varM 0) (consA (varM 3) (consA (varM 2) nilA))))) (truM (callM f_law_covers [] (consA (varM 0) (consA (varM 1) (consA (varM 3) nilA)))))) (retS (varM 3)) nilS))
def m_law_next : MT := (seqS (preW [3] (forM (rng1 (consA (bltM lenF (consA (varM 0) nilA)) nilA)) (one 3) b1_law_next))
    (retS (varM 2)))
def f_law_next : MF := defM 3 4 m_law_next
theorem n_law_next : ∀ (xs : List MV) (h : MH), (f_law_next xs h).isSome = true → xs.length = 3 := fun _ _ e => defM_len e
def b1_law_up : MT := (wipT [12] (ifS (tstM (opM neF (varM 11) (opM ixF (varM 3) (varM 6)))) (seqS (setS 11 (callM f_law_next [] (consA (opM ixF (varM 1) (cM (.int 1))) (consA (varM 11) (consA (opM ixF (varM 3) (varM 6)) nilA)))))
    (dropS (mthM appF (varM 4) (consA (tupM (consA (varM 6) (consA (varM 11) nilA))) nilA)))) nilS))
def b2_law_up : MT := (wipT [6, 7, 8, 11, 12] (seqS (setS 8 (flsM (lcM (seqI (varM 5)) [9] (one 9) (tstM (opM eqF (bltM lenF (consA (flsM (lcM (seqI (varM 5)) [10] (one 10) (truM (opM ixF (opM ixF (opM ixF (varM 0) (cM (.int 1))) (varM 9)) (varM 10))) (varM 10))) nilA)) (cM (.int 0)))) (varM 9))))
    (seqS (setS 6 (opM ixF (varM 8) (cM (.int 0))))
    (seqS (setS 11 (opM ixF (varM 2) (varM 6)))
    (seqS (preW [12] (forM (rng1 (consA (bltM lenF (consA (opM ixF (varM 1) (cM (.int 1))) nilA)) nilA)) (one 12) b1_law_up))
    (dropS (mthM remF (varM 5) (consA (varM 6) nilA))))))))
def m_law_up : MT := (seqS (setS 4 (refM (lstM nilA)))
    (seqS (setS 5 (refM (lcM (rng1 (consA (bltM lenF (consA (varM 2) nilA)) nilA)) [6] (one 6) (tstM (opM neF (opM ixF (varM 2) (varM 6)) (opM ixF (varM 3) (varM 6)))) (varM 6))))
    (seqS (preW [6, 7, 8, 11, 12] (forM (rng1 (consA (bltM lenF (consA (varM 5) nilA)) nilA)) (one 7) b2_law_up))
    (retS (frzM (varM 4))))))
def f_law_up : MF := cutF (defM 4 13 m_law_up)
theorem n_law_up : ∀ (xs : List MV) (h : MH), (f_law_up xs h).isSome = true → xs.length = 4 := cut_len fun _ _ e => defM_len e
def b1_law_down : MT := (wipT [6, 7] (seqS (dropS (mthM insF (varM 5) (consA (cM (.int 0)) (consA (tupM (consA (varM 6) (consA (opM ixF (varM 4) (varM 6)) nilA))) nilA))))
    (subS (varM 7) (varM 4) (varM 6))))
def m_law_down : MT := (seqS (setS 4 (refM (bltL lstF (consA (varM 3) nilA))))
    (seqS (setS 5 (refM (lstM nilA)))
    (seqS (preW [6, 7] (forM (seqI (callM f_law_up [] (consA (varM 0) (consA (varM 1) (consA (varM 3) (consA (varM 2) nilA)))))) (unp [6, 7]) b1_law_down))
    (retS (frzM (varM 5))))))
def f_law_down : MF := cutF (defM 4 8 m_law_down)
theorem n_law_down : ∀ (xs : List MV) (h : MH), (f_law_down xs h).isSome = true → xs.length = 4 := cut_len fun _ _ e => defM_len e
def m_law_is_at_most : MT := (retS (opM eqF (bltM lenF (consA (flsM (lcM (rng1 (consA (bltM lenF (consA (varM 1) nilA)) nilA)) [3] (one 3) (notT (truM (callM f_law_at_most [] (consA (opM ixF (varM 0) (cM (.int 1))) (consA (opM ixF (varM 1) (varM 3)) (consA (opM ixF (varM 2) (varM 3)) nilA)))))) (varM 3))) nilA)) (cM (.int 0))))
def f_law_is_at_most : MF := defM 3 4 m_law_is_at_most
theorem n_law_is_at_most : ∀ (xs : List MV) (h : MH), (f_law_is_at_most xs h).isSome = true → xs.length = 3 := fun _ _ e => defM_len e
def m_law_due : MT := (seqS (ifS (notT (truM (callM f_law_is_at_most [] (consA (varM 1) (consA (varM 3) (consA (varM 2) nilA)))))) (retS (flsM (lstM (consA (cM (.str "above")) (consA (cM (.bl true)) nilA))))) nilS)
    (retS (tupM (consA (cM (.str "told")) (consA (bltM tupF (consA (callM f_law_down [] (consA (varM 0) (consA (varM 1) (consA (varM 2) (consA (varM 3) nilA))))) nilA)) nilA)))))
def f_law_due : MF := defM 4 4 m_law_due
theorem n_law_due : ∀ (xs : List MV) (h : MH), (f_law_due xs h).isSome = true → xs.length = 4 := fun _ _ e => defM_len e
def b1_law : MT := (wipT [9, 10] (seqS (ifS (notT (truM (callM f_law_same [] (consA (callM f_law_asked [] (consA (varM 3) (consA (varM 4) (consA (varM 9) (consA (varM 10) (consA (varM 8) nilA)))))) (consA (callM f_law_due [] (consA (varM 3) (consA (varM 4) (consA (varM 9) (consA (varM 10) nilA))))) nilA))))) (retS (cM (.bl false))) nilS)
    (setS 8 (notV (varM 8)))))
def b2_law : MT := (wipT [2, 3, 4, 5, 6, 7, 8, 9, 10] (seqS (asgS (unp [3, 4]) (callM f_law_orders [] (consA (varM 1) nilA)))
    (seqS (setS 5 (callM f_law_map [] (consA (varM 1) (consA (varM 3) (consA (varM 4) nilA)))))
    (seqS (setS 6 (callM f_law_lower [] (consA (varM 1) (consA (varM 3) (consA (varM 4) (consA (varM 5) nilA))))))
    (seqS (ifS (tstM (opM eqF (callM f_law_draw [] (consA (varM 1) (consA (cM (.int 3)) nilA))) (cM (.int 0)))) (seqS (setS 6 (varM 5))
    (setS 5 (callM f_law_higher [] (consA (varM 1) (consA (varM 3) (consA (varM 4) (consA (varM 6) nilA))))))) nilS)
    (seqS (setS 7 (callM f_law_map [] (consA (varM 1) (consA (varM 3) (consA (varM 4) nilA)))))
    (seqS (setS 8 (opM eqF (callM f_law_draw [] (consA (varM 1) (consA (cM (.int 2)) nilA))) (cM (.int 1))))
    (preW [9, 10] (forM (seqI (flsM (lstM (consA (tupM (consA (varM 5) (consA (varM 6) nilA))) (consA (tupM (consA (varM 6) (consA (varM 5) nilA))) (consA (tupM (consA (varM 5) (consA (varM 7) nilA))) (consA (tupM (consA (varM 7) (consA (varM 6) nilA))) (consA (tupM (consA (varM 5) (consA (varM 5) nilA))) (consA (tupM (consA (varM 5) (consA (varM 6) nilA))) nilA))))))))) (unp [9, 10]) b1_law)))))))))
def m_law : MT := (seqS (setS 1 (callM f_law_start [] (consA (varM 0) nilA)))
    (seqS (preW [2, 3, 4, 5, 6, 7, 8, 9, 10] (forM (rng1 (consA (cM (.int 2)) nilA)) (one 2) b2_law))
    (retS (cM (.bl true)))))
def f_law : MF := defM 1 11 m_law
theorem n_law : ∀ (xs : List MV) (h : MH), (f_law xs h).isSome = true → xs.length = 1 := fun _ _ e => defM_len e
end
end Mi.k15
set_option maxHeartbeats 4000000
namespace Mi.k15
open PySem L2
open Mi.k13 (St Ow owV Ri mkL mkV cov mem In rowT plB)
open Mi.k14 (leR upS ups row_at rowF leR_iff climb climb_lt top?)
theorem ups_mem {n m : Nat} {f g : Nat → Nat → Bool} {r q : List Nat} (o2 : SOrd m g) (hl : leR n g r q = true) : ∀ {k : Nat} {d : Nat → Bool} {p : Nat × Nat}, p ∈ ups n m f g r q k d → p.1 < n ∧ p.2 < m
  | 0, _, _, h => nomatch h
  | k + 1, d, p, h => by
    unfold ups at h
    cases ht : top? n f d with
    | none =>
      rw [ht] at h
      cases h
    | some x =>
      rw [ht] at h
      rcases List.mem_append.mp h with h | h
      · obtain ⟨v, hv, e⟩ := List.mem_map.mp h
        have hx := (fib_mem.mp (List.mem_of_find?_eq_some ht)).1
        rw [← e]
        exact ⟨hx, climb_lt o2 (leR_iff.mp hl x hx) v hv⟩
      · exact ups_mem o2 hl h
theorem upS_mem {n m : Nat} {f g : Nat → Nat → Bool} {r q : List Nat} (o2 : SOrd m g) (hl : leR n g r q = true) {p : Nat × Nat} (h : p ∈ upS n m f g r q) : p.1 < n ∧ p.2 < m := ups_mem o2 hl h
theorem upS_len {n m : Nat} {f g : Nat → Nat → Bool} {r q : List Nat} (hn : n ≤ 64) (hm : m ≤ 64) : (upS n m f g r q).length ≤ 4096 := Nat.le_trans k14.ups_len (Nat.le_trans (Nat.mul_le_mul fib_len (Nat.le_refl m)) (Nat.mul_le_mul hn hm))
/-- steps walked, what stood there gathered -/
def wlk (s : List Nat × List (Nat × Nat)) (p : Nat × Nat) : List Nat × List (Nat × Nat) := (s.1.set p.1 p.2, s.2 ++ [(p.1, s.1.getD p.1 0)])
def dnS (n m : Nat) (f g : Nat → Nat → Bool) (r q : List Nat) : List (Nat × Nat) := ((upS n m f g r q).foldl wlk (r, [])).2.reverse
theorem wlk_len : ∀ {ss : List (Nat × Nat)} {s : List Nat × List (Nat × Nat)}, (ss.foldl wlk s).2.length = s.2.length + ss.length
  | [], _ => rfl
  | p :: ss, s => by
    rw [List.foldl_cons, wlk_len, List.length_cons]
    show (s.2 ++ [_]).length + _ = _
    rw [List.length_append]
    show s.2.length + 1 + _ = _
    omega
theorem dnS_len {n m : Nat} {f g : Nat → Nat → Bool} {r q : List Nat} (hn : n ≤ 64) (hm : m ≤ 64) : (dnS n m f g r q).length ≤ 4096 := by
  unfold dnS
  rw [List.length_reverse, wlk_len]
  have := upS_len (f := f) (g := g) (r := r) (q := q) hn hm
  show 0 + _ ≤ _
  omega
def hD (h : MH) (w : List Nat) (acc : List (Nat × Nat)) : MH := h ++ [.lst (w.map nV), .lst (acc.map prV)]
theorem hD_0 {h : MH} {w : List Nat} {acc : List (Nat × Nat)} {p : Nat} (hp : p = h.length) : (hD h w acc)[p]? = some (.lst (w.map nV)) := k14.hU_0 hp
theorem hD_1 {h : MH} {w : List Nat} {acc : List (Nat × Nat)} {p : Nat} (hp : p = h.length) : (hD h w acc)[p + 1]? = some (.lst (acc.map prV)) := k14.hU_1 hp
theorem hD_s0 {h : MH} {w w2 : List Nat} {acc : List (Nat × Nat)} {p : Nat} (hp : p = h.length) : (hD h w acc).set p (.lst (w2.map nV)) = hD h w2 acc := k14.hU_s0 hp
theorem hD_s1 {h : MH} {w : List Nat} {acc acc2 : List (Nat × Nat)} {p : Nat} (hp : p = h.length) : (hD h w acc).set (p + 1) (.lst (acc2.map prV)) = hD h w acc2 := k14.hU_s1 hp
theorem p_turn {n m p : Nat} {a0 a1 a2 a3 : MV} {w : List Nat} {acc : List (Nat × Nat)} {s : Nat × Nat} {h : MH} (hp : p = h.length) (hw : Mp n m w) (hs : s.1 < n) (hacc : acc.length ≤ 5000) :
    turnM (unp [6, 7]) b1_steps_down (prV s) [some a0, some a1, some a2, some a3, some (.ref p), some (.ref (p + 1)), none, none] (hD h w acc) = some (.nx [some a0, some a1, some a2, some a3, some (.ref p), some (.ref (p + 1)), none, none] (hD h (wlk (w, acc) s).1 (wlk (w, acc) s).2)) := by
  obtain ⟨v, hv, _⟩ := hw.at hs
  have b0 := hD_0 (w := w) (acc := acc) hp
  have b1 := hD_1 (w := w) (acc := acc) hp
  have s1 := hD_s1 (w := w) (acc := acc) (acc2 := acc ++ [(s.1, v)]) hp
  have c0 := hD_0 (w := w) (acc := acc ++ [(s.1, v)]) hp
  have s0 := hD_s0 (w := w) (w2 := w.set s.1 s.2) (acc := acc ++ [(s.1, v)]) hp
  have s1' : (hD h w acc).set (p + 1) (.lst (acc.map prV ++ [.tup [nV s.1, nV v]])) = hD h w (acc ++ [(s.1, v)]) := by
    rw [← s1]
    simp
  have ew : (w.set s.1 s.2).map nV = (w.map nV).set s.1 (nV s.2) := by rw [List.map_set]
  rw [ew] at s0
  have la : acc.length < lim := by unfold lim; omega
  have l2 : 2 ≤ lim := by unfold lim; omega
  have hl : s.1 < w.length := by rw [hw.len]; exact hs
  have hix : ixN (w.map nV).length (s.1 : Int) = some s.1 := by rw [List.length_map, ixN_n, if_pos hl]
  have hv2 : (w.map nV)[s.1]? = some (nV v) := by rw [List.getElem?_map, hv]; rfl
  have e : wlk (w, acc) s = (w.set s.1 s.2, acc ++ [(s.1, v)]) := by
    unfold wlk
    rw [row_at hv]
  rw [e]
  show _ = some (OutS.nx _ (hD h (w.set s.1 s.2) (acc ++ [(s.1, v)])))
  have la2 : (acc.map prV).length < lim := by rw [List.length_map]; exact la
  generalize w.map nV = W at *
  generalize acc.map prV = A at *
  simp [b1_steps_down, b0, atI_n, hv2, b1, la2, l2, s1', c0, hix, s0]
theorem steps_up {n m : Nat} {f g : Nat → Nat → Bool} {L L2 r q : List Nat} {h : MH} (o1 : Ow n f L) (o2 : Ow m g L2) (hr : Mp n m r) (hq : Mp n m q) (hl : leR n g r q = true) : f_steps_up [ordV n (prs n f), ordV m (prs m g), rowT r, rowT q] h = ok (.tup ((upS n m f g r q).map prV)) h := k14.steps_up o1 o2 hr hq hl
theorem steps_up_no {n m : Nat} {f g : Nat → Nat → Bool} {L L2 r q : List Nat} {h : MH} (o1 : Ow n f L) (o2 : Ow m g L2) (hr : Mp n m r) (hq : Mp n m q) (hl : leR n g r q = false) : f_steps_up [ordV n (prs n f), ordV m (prs m g), rowT r, rowT q] h = some (.ex ⟨"NotAbove", []⟩ h) := k14.steps_up_no o1 o2 hr hq hl
theorem wlk_mp {n m : Nat} {s : List Nat × List (Nat × Nat)} {p : Nat × Nat} (h : Mp n m s.1) (hp : p.2 < m) : Mp n m (wlk s p).1 := h.set hp
theorem steps_down {n m : Nat} {f g : Nat → Nat → Bool} {L L2 r q : List Nat} {h : MH} (o1 : Ow n f L) (o2 : Ow m g L2) (hr : Mp n m r) (hq : Mp n m q) (hl : leR n g r q = true) : f_steps_down [ordV n (prs n f), ordV m (prs m g), rowT q, rowT r] h = ok (.tup ((dnS n m f g r q).map prV)) h := by
  obtain ⟨p, hp⟩ : ∃ p, p = h.length := ⟨_, rfl⟩
  have ul := upS_len (f := f) (g := g) (r := r) (q := q) o1.le o2.le
  have e1 := steps_up (h := hD h r []) o1 o2 hr hq hl
  have lp := for_fold (f := prV) (bd := turnM (unp [6, 7]) b1_steps_down) (xs := upS n m f g r q) (i0 := 0) (a0 := (r, ([] : List (Nat × Nat)))) (fun _ => [some (ordV n (prs n f)), some (ordV m (prs m g)), some (rowT q), some (rowT r), some (.ref p), some (.ref (p + 1)), none, none]) (fun s => hD h s.1 s.2) wlk (fun i s => Mp n m s.1 ∧ s.2.length ≤ i) ⟨hr, Nat.le_refl _⟩ fun i x s hx ⟨c1, c2⟩ => by
    obtain ⟨x1, x2⟩ := upS_mem o2.so hl (List.mem_of_getElem? hx)
    have hi := (List.getElem?_eq_some_iff.mp hx).1
    refine ⟨p_turn hp c1 x1 (by omega), wlk_mp c1 x2, ?_⟩
    show (s.2 ++ [_]).length ≤ _
    rw [List.length_append]
    show s.2.length + 1 ≤ _
    omega
  obtain ⟨fs, hfs⟩ : ∃ fs, fs = (upS n m f g r q).foldl wlk (r, []) := ⟨_, rfl⟩
  have c0 := lp.1
  rw [← hfs] at c0
  have ed : dnS n m f g r q = fs.2.reverse := by
    unfold dnS
    rw [← hfs]
  rw [ed]
  have b1 := hD_1 (w := fs.1) (acc := fs.2) hp
  refine cut_p (os := [.lst (fs.1.map nV), .lst (fs.2.map prV)]) ?_ clo_prs
  refine defM_ret rfl ?_
  show m_steps_down [some (ordV n (prs n f)), some (ordV m (prs m g)), some (rowT q), some (rowT r), none, none, none, none] h = _
  unfold m_steps_down
  rw [seq_nx (s1 := [some (ordV n (prs n f)), some (ordV m (prs m g)), some (rowT q), some (rowT r), some (.ref p), none, none, none]) (h1 := h ++ [.lst (r.map nV)]) (by simp [← hp]),
    seq_nx (s1 := [some (ordV n (prs n f)), some (ordV m (prs m g)), some (rowT q), some (rowT r), some (.ref p), some (.ref (p + 1)), none, none]) (h1 := hD h r []) (by simp [hD, ← hp])]
  have s3 : preW [6, 7] (forM (seqI (callX f_steps_up [] (consA (varM 0) (consA (varM 1) (consA (varM 3) (consA (varM 2) nilA)))))) (unp [6, 7]) b1_steps_down) [some (ordV n (prs n f)), some (ordV m (prs m g)), some (rowT q), some (rowT r), some (.ref p), some (.ref (p + 1)), none, none] (hD h r []) = some (.nx [some (ordV n (prs n f)), some (ordV m (prs m g)), some (rowT q), some (rowT r), some (.ref p), some (.ref (p + 1)), none, none] (hD h fs.1 fs.2)) := by
    generalize upS n m f g r q = U at *
    simp [e1, c0]
  rw [seq_nx s3]
  refine (retS_ok (x := .tup (fs.2.reverse.map prV)) (h1 := hD h fs.1 fs.2) ?_).trans rfl
  rw [List.map_reverse]
  generalize fs.2.map prV = A at b1 ⊢
  simp [b1]
theorem steps_down_no {n m : Nat} {f g : Nat → Nat → Bool} {L L2 r q : List Nat} {h : MH} (o1 : Ow n f L) (o2 : Ow m g L2) (hr : Mp n m r) (hq : Mp n m q) (hl : leR n g r q = false) : ∃ os, f_steps_down [ordV n (prs n f), ordV m (prs m g), rowT q, rowT r] h = some (.ex ⟨"NotAbove", []⟩ (h ++ os)) := by
  obtain ⟨p, hp⟩ : ∃ p, p = h.length := ⟨_, rfl⟩
  have e1 := steps_up_no (h := hD h r []) o1 o2 hr hq hl
  have e4 : defM 4 8 m_steps_down [ordV n (prs n f), ordV m (prs m g), rowT q, rowT r] h = some (.ex ⟨"NotAbove", []⟩ (hD h r [])) := by
    refine defM_ex rfl ?_
    show m_steps_down [some (ordV n (prs n f)), some (ordV m (prs m g)), some (rowT q), some (rowT r), none, none, none, none] h = _
    unfold m_steps_down
    rw [seq_nx (s1 := [some (ordV n (prs n f)), some (ordV m (prs m g)), some (rowT q), some (rowT r), some (.ref p), none, none, none]) (h1 := h ++ [.lst (r.map nV)]) (by simp [← hp]),
      seq_nx (s1 := [some (ordV n (prs n f)), some (ordV m (prs m g)), some (rowT q), some (rowT r), some (.ref p), some (.ref (p + 1)), none, none]) (h1 := hD h r []) (by simp [hD, ← hp])]
    refine seq_ex ?_
    simp [e1]
  refine ⟨[.lst (r.map nV), .lst []], ?_⟩
  unfold f_steps_down cutF
  rw [e4]
  rfl
/-! ### the law's -/
theorem l_turn {n m p : Nat} {a0 a1 a2 a3 : MV} {w : List Nat} {acc : List (Nat × Nat)} {s : Nat × Nat} {h : MH} (hp : p = h.length) (hw : Mp n m w) (hs : s.1 < n) (hacc : acc.length ≤ 5000) :
    turnM (unp [6, 7]) b1_law_down (prV s) [some a0, some a1, some a2, some a3, some (.ref p), some (.ref (p + 1)), none, none] (hD h w acc.reverse) = some (.nx [some a0, some a1, some a2, some a3, some (.ref p), some (.ref (p + 1)), none, none] (hD h (wlk (w, acc) s).1 (wlk (w, acc) s).2.reverse)) := by
  obtain ⟨v, hv, _⟩ := hw.at hs
  have b0 := hD_0 (w := w) (acc := acc.reverse) hp
  have b1 := hD_1 (w := w) (acc := acc.reverse) hp
  have s1 := hD_s1 (w := w) (acc := acc.reverse) (acc2 := (s.1, v) :: acc.reverse) hp
  have c0 := hD_0 (w := w) (acc := (s.1, v) :: acc.reverse) hp
  have s0 := hD_s0 (w := w) (w2 := w.set s.1 s.2) (acc := (s.1, v) :: acc.reverse) hp
  have s1' : (hD h w acc.reverse).set (p + 1) (.lst (.tup [nV s.1, nV v] :: acc.reverse.map prV)) = hD h w ((s.1, v) :: acc.reverse) := by
    rw [← s1]
    simp
  have ew : (w.set s.1 s.2).map nV = (w.map nV).set s.1 (nV s.2) := by rw [List.map_set]
  rw [ew] at s0
  have l2 : 2 ≤ lim := by unfold lim; omega
  have hl : s.1 < w.length := by rw [hw.len]; exact hs
  have hix : ixN (w.map nV).length (s.1 : Int) = some s.1 := by rw [List.length_map, ixN_n, if_pos hl]
  have hv2 : (w.map nV)[s.1]? = some (nV v) := by rw [List.getElem?_map, hv]; rfl
  have e : wlk (w, acc) s = (w.set s.1 s.2, acc ++ [(s.1, v)]) := by
    unfold wlk
    rw [row_at hv]
  rw [e]
  show _ = some (OutS.nx _ (hD h (w.set s.1 s.2) (acc ++ [(s.1, v)]).reverse))
  rw [List.reverse_append]
  show _ = some (OutS.nx _ (hD h (w.set s.1 s.2) ((s.1, v) :: acc.reverse)))
  have la2 : (acc.reverse.map prV).length < lim := by
    rw [List.length_map, List.length_reverse]
    unfold lim
    omega
  generalize w.map nV = W at *
  generalize hA : acc.reverse.map prV = A at *
  simp [b1_law_down, b0, atI_n, hv2, b1, la2, l2, s1', c0, hix, s0]
theorem law_up {n m : Nat} {f g : Nat → Nat → Bool} {L L2 r q : List Nat} {h : MH} (o1 : Ow n f L) (o2 : Ow m g L2) (hr : Mp n m r) (hq : Mp n m q) (hl : leR n g r q = true) : f_law_up [owV n f L, owV m g L2, rowF r, rowF q] h = ok (.fls ((upS n m f g r q).map prV)) h := k14.law_up o1 o2 hr hq hl
theorem law_down {n m : Nat} {f g : Nat → Nat → Bool} {L L2 r q : List Nat} {h : MH} (o1 : Ow n f L) (o2 : Ow m g L2) (hr : Mp n m r) (hq : Mp n m q) (hl : leR n g r q = true) : f_law_down [owV n f L, owV m g L2, rowF q, rowF r] h = ok (.fls ((dnS n m f g r q).map prV)) h := by
  obtain ⟨p, hp⟩ : ∃ p, p = h.length := ⟨_, rfl⟩
  have ul := upS_len (f := f) (g := g) (r := r) (q := q) o1.le o2.le
  have e1 := law_up (h := hD h r []) o1 o2 hr hq hl
  have lp := for_fold (f := prV) (bd := turnM (unp [6, 7]) b1_law_down) (xs := upS n m f g r q) (i0 := 0) (a0 := (r, ([] : List (Nat × Nat)))) (fun _ => [some (owV n f L), some (owV m g L2), some (rowF q), some (rowF r), some (.ref p), some (.ref (p + 1)), none, none]) (fun s => hD h s.1 s.2.reverse) wlk (fun i s => Mp n m s.1 ∧ s.2.length ≤ i) ⟨hr, Nat.le_refl _⟩ fun i x s hx ⟨c1, c2⟩ => by
    obtain ⟨x1, x2⟩ := upS_mem o2.so hl (List.mem_of_getElem? hx)
    have hi := (List.getElem?_eq_some_iff.mp hx).1
    refine ⟨l_turn hp c1 x1 (by omega), wlk_mp c1 x2, ?_⟩
    show (s.2 ++ [_]).length ≤ _
    rw [List.length_append]
    show s.2.length + 1 ≤ _
    omega
  obtain ⟨fs, hfs⟩ : ∃ fs, fs = (upS n m f g r q).foldl wlk (r, []) := ⟨_, rfl⟩
  have c0 := lp.1
  rw [← hfs] at c0
  have ed : dnS n m f g r q = fs.2.reverse := by
    unfold dnS
    rw [← hfs]
  rw [ed]
  have b1 := hD_1 (w := fs.1) (acc := fs.2.reverse) hp
  have fz := frz_lst 2 b1 (List.all_eq_true.mpr fun x hx => by
    obtain ⟨i, _, e⟩ := List.mem_map.mp hx
    rw [← e]
    rfl)
  have es : (hD h fs.1 fs.2.reverse).set (p + 1) .dead = h ++ [.lst (fs.1.map nV), .dead] := by
    unfold hD
    rw [sa hp.symm]
    rfl
  rw [es] at fz
  refine cut_p (os := [.lst (fs.1.map nV), .dead]) ?_ clo_prs
  refine defM_ret rfl ?_
  show m_law_down [some (owV n f L), some (owV m g L2), some (rowF q), some (rowF r), none, none, none, none] h = _
  unfold m_law_down
  rw [seq_nx (s1 := [some (owV n f L), some (owV m g L2), some (rowF q), some (rowF r), some (.ref p), none, none, none]) (h1 := h ++ [.lst (r.map nV)]) (by simp [← hp]),
    seq_nx (s1 := [some (owV n f L), some (owV m g L2), some (rowF q), some (rowF r), some (.ref p), some (.ref (p + 1)), none, none]) (h1 := hD h r []) (by simp [hD, ← hp])]
  have s3 : preW [6, 7] (forM (seqI (callM f_law_up [] (consA (varM 0) (consA (varM 1) (consA (varM 3) (consA (varM 2) nilA)))))) (unp [6, 7]) b1_law_down) [some (owV n f L), some (owV m g L2), some (rowF q), some (rowF r), some (.ref p), some (.ref (p + 1)), none, none] (hD h r []) = some (.nx [some (owV n f L), some (owV m g L2), some (rowF q), some (rowF r), some (.ref p), some (.ref (p + 1)), none, none] (hD h fs.1 fs.2.reverse)) := by
    have c0' : forS (turnM (unp [6, 7]) b1_law_down) ((upS n m f g r q).map prV) [some (owV n f L), some (owV m g L2), some (rowF q), some (rowF r), some (.ref p), some (.ref (p + 1)), none, none] (hD h r []) = some (.nx [some (owV n f L), some (owV m g L2), some (rowF q), some (rowF r), some (.ref p), some (.ref (p + 1)), none, none] (hD h fs.1 fs.2.reverse)) := c0
    generalize upS n m f g r q = U at *
    simp [e1, c0']
  rw [seq_nx s3]
  refine retS_ok ?_
  show (match frzV 4 (.ref (p + 1)) (hD h fs.1 fs.2.reverse) with
    | some (y, h2) => ok y h2
    | none => none) = _
  rw [fz]
end Mi.k15
set_option maxHeartbeats 4000000
namespace Mi.k15
open PySem L2
open Mi.k13 (St Ow owV Ri mkL mkV cov mem In rowT plB)
open Mi.k14 (leR upS ups row_at rowF leR_iff)
theorem lis_at_most {n m : Nat} {g : Nat → Nat → Bool} {L2 r q : List Nat} {h : MH} (hn : n ≤ 64) (hr : Mp n m r) (hq : Mp n m q) : f_law_is_at_most [owV m g L2, .fls (r.map nV), .fls (q.map nV)] h = ok (.bl (leR n g r q)) h := k14.lis_at_most hn hr hq
/-- what is due -/
def dueV (n m : Nat) (f g : Nat → Nat → Bool) (r q : List Nat) : MV := if leR n g r q = true then .tup [.str "told", .tup ((dnS n m f g r q).map prV)] else .fls [.str "above", .bl true]
theorem due {n m : Nat} {f g : Nat → Nat → Bool} {L L2 r q : List Nat} {h : MH} (o1 : Ow n f L) (o2 : Ow m g L2) (hr : Mp n m r) (hq : Mp n m q) : f_law_due [owV n f L, owV m g L2, .fls (q.map nV), .fls (r.map nV)] h = ok (dueV n m f g r q) h := by
  have e1 := lis_at_most (g := g) (L2 := L2) (h := h) o1.le hr hq
  unfold dueV
  cases c : leR n g r q with
  | true =>
    have e2 := law_down (h := h) o1 o2 hr hq c
    rw [c] at e1
    simp [f_law_due, m_law_due, e1, e2, lim]
  | false =>
    rw [c] at e1
    simp [f_law_due, m_law_due, e1, lim]
theorem asked {n m : Nat} {f g : Nat → Nat → Bool} {L L2 r q : List Nat} {b : Bool} {h : MH} (o1 : Ow n f L) (o2 : Ow m g L2) (hr : Mp n m r) (hq : Mp n m q) : f_law_asked [owV n f L, owV m g L2, .fls (q.map nV), .fls (r.map nV), .bl b] h = ok (dueV n m f g r q) h := by
  have i1 : ∀ k (f : Nat → Nat → Bool) (L : List Nat), ixF (owV k f L) (.int 0) h = ok (ordV k (prs k f)) h := fun k f L => by simp [owV, atI_0]
  obtain ⟨s0, hs0⟩ : ∃ s0 : MS, s0 = [some (owV n f L), some (owV m g L2), some (.fls (q.map nV)), some (.fls (r.map nV)), some (.bl b), none, none] := ⟨_, rfl⟩
  have t2 : opM ixF (varM 0) (cM (.int 0)) s0 h = ok (ordV n (prs n f)) h := by rw [hs0]; exact i1 n f L
  have t3 : opM ixF (varM 1) (cM (.int 0)) s0 h = ok (ordV m (prs m g)) h := by rw [hs0]; exact i1 m g L2
  have t4 : bltM tupF (consA (varM 2) nilA) s0 h = ok (rowT q) h := by rw [hs0]; rfl
  have t5 : bltM tupF (consA (varM 3) nilA) s0 h = ok (rowT r) h := by rw [hs0]; rfl
  have A1 : consA (opM ixF (varM 0) (cM (.int 0))) (consA (opM ixF (varM 1) (cM (.int 0))) (consA (bltM tupF (consA (varM 2) nilA)) (consA (bltM tupF (consA (varM 3) nilA)) nilA))) s0 h = ok [ordV n (prs n f), ordV m (prs m g), rowT q, rowT r] h := consA_ok t2 (consA_ok t3 (consA_ok t4 (k13.consA_1 t5)))
  have A2 : consA (bltM tupF (consA (varM 3) nilA)) (consA (bltM tupF (consA (varM 2) nilA)) (consA (opM ixF (varM 1) (cM (.int 0))) (consA (opM ixF (varM 0) (cM (.int 0))) nilA))) s0 h = ok [rowT r, rowT q, ordV m (prs m g), ordV n (prs n f)] h := consA_ok t5 (consA_ok t4 (consA_ok t3 (k13.consA_1 t2)))
  have v4 : truM (varM 4) s0 h = ok b h := by rw [hs0]; rfl
  unfold dueV
  cases c : leR n g r q with
  | true =>
    have e := steps_down (h := h) o1 o2 hr hq c
    rw [if_pos rfl]
    refine cut_p (os := []) ?_ (by simp)
    rw [List.append_nil]
    refine defM_ret rfl ?_
    show m_law_asked [some (owV n f L), some (owV m g L2), some (.fls (q.map nV)), some (.fls (r.map nV)), some (.bl b), none, none] h = _
    rw [← hs0]
    unfold m_law_asked tryS
    have Q : (seqS (ifS (truM (varM 4)) (retS (tupM (consA (cM (.str "told")) (consA (callKX f_steps_down 0 4 [3, 2, 1, 0] [] nilA (consA (bltM tupF (consA (varM 3) nilA)) (consA (bltM tupF (consA (varM 2) nilA)) (consA (opM ixF (varM 1) (cM (.int 0))) (consA (opM ixF (varM 0) (cM (.int 0))) nilA))))) nilA)))) nilS)
    (retS (tupM (consA (cM (.str "told")) (consA (callX f_steps_down [] (consA (opM ixF (varM 0) (cM (.int 0))) (consA (opM ixF (varM 1) (cM (.int 0))) (consA (bltM tupF (consA (varM 2) nilA)) (consA (bltM tupF (consA (varM 3) nilA)) nilA))))) nilA))))) s0 h = some (.ret (.tup [.str "told", .tup ((dnS n m f g r q).map prV)]) h) := by
      cases b with
      | true =>
        refine seq_ret ((ifS_t v4).trans (retS_ok (tupM_ok (consA_ok rfl (consA_ok ?_ rfl)) (by simp))))
        exact (callKX_0 A2 rfl).trans e
      | false =>
        refine (seq_nx (ifS_f v4)).trans (retS_ok (tupM_ok (consA_ok rfl (consA_ok ?_ rfl)) (by simp)))
        exact (callX_is A1).trans e
    rw [Q]
  | false =>
    obtain ⟨ks, e⟩ := steps_down_no (h := h) o1 o2 hr hq c
    rw [if_neg Bool.false_ne_true]
    refine cut_p (os := ks) ?_ (by simp)
    refine defM_ret rfl ?_
    show m_law_asked [some (owV n f L), some (owV m g L2), some (.fls (q.map nV)), some (.fls (r.map nV)), some (.bl b), none, none] h = _
    rw [← hs0]
    unfold m_law_asked tryS
    have Q : (seqS (ifS (truM (varM 4)) (retS (tupM (consA (cM (.str "told")) (consA (callKX f_steps_down 0 4 [3, 2, 1, 0] [] nilA (consA (bltM tupF (consA (varM 3) nilA)) (consA (bltM tupF (consA (varM 2) nilA)) (consA (opM ixF (varM 1) (cM (.int 0))) (consA (opM ixF (varM 0) (cM (.int 0))) nilA))))) nilA)))) nilS)
    (retS (tupM (consA (cM (.str "told")) (consA (callX f_steps_down [] (consA (opM ixF (varM 0) (cM (.int 0))) (consA (opM ixF (varM 1) (cM (.int 0))) (consA (bltM tupF (consA (varM 2) nilA)) (consA (bltM tupF (consA (varM 3) nilA)) nilA))))) nilA))))) s0 h = some (.ex ⟨"NotAbove", []⟩ (h ++ ks)) := by
      cases b with
      | true =>
        refine seq_ex ((ifS_t v4).trans (retS_ex (tupM_ex (consA_ex2 rfl (consA_ex ?_)))))
        exact (callKX_0 A2 rfl).trans e
      | false =>
        refine (seq_nx (ifS_f v4)).trans (retS_ex (tupM_ex (consA_ex2 rfl (consA_ex ?_))))
        exact (callX_is A1).trans e
    rw [Q]
    have lk : List.lookup ("NotAbove" : Str) [(("NotAbove" : Str), true)] = some true := rfl
    have lk2 : List.lookup ("NotAbove" : Str) [(("NotAbove" : Str), false)] = some false := rfl
    dsimp only
    rw [lk]
    dsimp only
    refine allAd_eq fun a d => ?_
    simp only [lk, lk2]
    simp [lim]
theorem draw {S os : MH} {m : Nat} (hS : St S) (hm : 0 < m) (hm2 : m < 1000000) : ∃ (d : Nat) (S' : MH), f_law_draw [.ref 0, nV m] (S ++ os) = ok (nV d) (S' ++ os) ∧ d < m ∧ St S' := k13.draw hS hm hm2
theorem map_ {S os : MH} {n m : Nat} {f g : Nat → Nat → Bool} {L L2 : List Nat} (hS : St S) (o1 : Ow n f L) (o2 : Ow m g L2) (h0 : 0 < n → 0 < m) : ∃ (r : List Nat) (S' : MH),
    f_law_map [.ref 0, owV n f L, owV m g L2] (S ++ os) = ok (.fls (r.map nV)) (S' ++ os) ∧ Ri n m f g r ∧ St S' := k13.map_ hS o1 o2 h0
theorem same {v : MV} {h : MH} (e : plB 5 v = true) : f_law_same [v, v] h = ok (.bl true) h := k13.same e
theorem start {ns : List Int} {h : MH} (hn : ns.length ≤ 63) : ∃ S, f_law_start [.frz (ns.map MV.int)] [] = ok (.ref 0) S ∧ St S := k13.start (h := h) hn
theorem orders_ {S os : MH} (hS : St S) : ∃ (n m : Nat) (f g : Nat → Nat → Bool) (L L2 : List Nat) (S' : MH), f_law_orders [.ref 0] (S ++ os) = ok (.tup [owV n f L, owV m g L2]) (S' ++ os) ∧ Ow n f L ∧ Ow m g L2 ∧ (0 < n → 0 < m) ∧ St S' := k14.orders_ hS
theorem lower_ {S os : MH} {n m : Nat} {f g : Nat → Nat → Bool} {L L2 r : List Nat} (hS : St S) (o1 : Ow n f L) (o2 : Ow m g L2) (hr : Ri n m f g r) : ∃ (q : List Nat) (S' : MH),
    f_law_lower [.ref 0, owV n f L, owV m g L2, .fls (r.map nV)] (S ++ os) = ok (.fls (q.map nV)) (S' ++ os) ∧ Ri n m f g q ∧ k14.Le n g q r ∧ St S' := k14.lower_ hS o1 o2 hr
theorem higher_ {S os : MH} {n m : Nat} {f g : Nat → Nat → Bool} {L L2 r : List Nat} (hS : St S) (o1 : Ow n f L) (o2 : Ow m g L2) (hr : Ri n m f g r) : ∃ (q : List Nat) (S' : MH),
    f_law_higher [.ref 0, owV n f L, owV m g L2, .fls (r.map nV)] (S ++ os) = ok (.fls (q.map nV)) (S' ++ os) ∧ Ri n m f g q ∧ k14.Le n g r q ∧ St S' := k14.higher_ hS o1 o2 hr
theorem plB_due {n m : Nat} {f g : Nat → Nat → Bool} {r q : List Nat} (hn : n ≤ 64) (hm : m ≤ 64) : plB 5 (dueV n m f g r q) = true := by
  have ul : (dnS n m f g r q).length ≤ 4096 := dnS_len hn hm
  unfold dueV
  by_cases c : leR n g r q = true
  · rw [if_pos c]
    have e : plB 4 (.tup ((dnS n m f g r q).map prV)) = true := by
      show (((dnS n m f g r q).map prV).all (plB 3) && decide (((dnS n m f g r q).map prV).length ≤ 5000)) = true
      rw [List.length_map, decide_eq_true (by omega), Bool.and_true, List.all_eq_true]
      intro x hx
      obtain ⟨i, _, ei⟩ := List.mem_map.mp hx
      rw [← ei]
      rfl
    show ([MV.str "told", .tup ((dnS n m f g r q).map prV)].all (plB 4) && decide (([MV.str "told", .tup ((dnS n m f g r q).map prV)] : List MV).length ≤ 5000)) = true
    simp [e]
    rfl
  · rw [if_neg c]
    rfl
theorem inner {n m : Nat} {f g : Nat → Nat → Bool} {L L2 hi lo ot : List Nat} {h : MH} {fz : MV} {x2 : Option MV} (o1 : Ow n f L) (o2 : Ow m g L2) : ∀ {ps : List (List Nat × List Nat)} {b : Bool}, (∀ p ∈ ps, Mp n m p.1 ∧ Mp n m p.2) → ∃ b' : Bool,
    forS (turnM (unp [9, 10]) b1_law) (ps.map fun p => .tup [rowF p.1, rowF p.2]) [some fz, some (.ref 0), x2, some (owV n f L), some (owV m g L2), some (rowF hi), some (rowF lo), some (rowF ot), some (.bl b), none, none] h =
      some (.nx [some fz, some (.ref 0), x2, some (owV n f L), some (owV m g L2), some (rowF hi), some (rowF lo), some (rowF ot), some (.bl b'), none, none] h)
  | [], b, _ => ⟨b, rfl⟩
  | p :: ps, b, hp => by
    obtain ⟨h1, h2⟩ := hp p (List.mem_cons_self ..)
    have e1 := asked (b := b) (h := h) o1 o2 h2 h1
    have e2 := due (h := h) o1 o2 h2 h1
    have e3 := same (h := h) (plB_due (f := f) (g := g) (r := p.2) (q := p.1) o1.le o2.le)
    obtain ⟨b', e⟩ := inner (hi := hi) (lo := lo) (ot := ot) (h := h) (fz := fz) (x2 := x2) o1 o2 (ps := ps) (b := !b) fun p' hp' => hp p' (List.mem_cons_of_mem _ hp')
    refine ⟨b', ?_⟩
    rw [List.map_cons]
    refine (forS_nx (s1 := [some fz, some (.ref 0), x2, some (owV n f L), some (owV m g L2), some (rowF hi), some (rowF lo), some (rowF ot), some (.bl (!b)), none, none]) (h1 := h) ?_).trans e
    show b1_law [some fz, some (.ref 0), x2, some (owV n f L), some (owV m g L2), some (rowF hi), some (rowF lo), some (rowF ot), some (.bl b), some (rowF p.1), some (rowF p.2)] h = _
    unfold b1_law wipT
    have A1 := callM_ok (f := f_law_asked) (ds := []) (a := consA (varM 3) (consA (varM 4) (consA (varM 9) (consA (varM 10) (consA (varM 8) nilA))))) (s := [some fz, some (.ref 0), x2, some (owV n f L), some (owV m g L2), some (rowF hi), some (rowF lo), some (rowF ot), some (.bl b), some (rowF p.1), some (rowF p.2)]) (h := h) (xs := [owV n f L, owV m g L2, rowF p.1, rowF p.2, .bl b]) rfl e1
    have A2 := callM_ok (f := f_law_due) (ds := []) (a := consA (varM 3) (consA (varM 4) (consA (varM 9) (consA (varM 10) nilA)))) (s := [some fz, some (.ref 0), x2, some (owV n f L), some (owV m g L2), some (rowF hi), some (rowF lo), some (rowF ot), some (.bl b), some (rowF p.1), some (rowF p.2)]) (h := h) (xs := [owV n f L, owV m g L2, rowF p.1, rowF p.2]) rfl e2
    have s1 : ifS (notT (truM (callM f_law_same [] (consA (callM f_law_asked [] (consA (varM 3) (consA (varM 4) (consA (varM 9) (consA (varM 10) (consA (varM 8) nilA)))))) (consA (callM f_law_due [] (consA (varM 3) (consA (varM 4) (consA (varM 9) (consA (varM 10) nilA))))) nilA))))) (retS (cM (.bl false))) nilS [some fz, some (.ref 0), x2, some (owV n f L), some (owV m g L2), some (rowF hi), some (rowF lo), some (rowF ot), some (.bl b), some (rowF p.1), some (rowF p.2)] h =
        some (.nx [some fz, some (.ref 0), x2, some (owV n f L), some (owV m g L2), some (rowF hi), some (rowF lo), some (rowF ot), some (.bl b), some (rowF p.1), some (rowF p.2)] h) := ifS_f (notcall_t (f := f_law_same) (ds := []) (b := true) (consA_ok A1 (k13.consA_1 A2)) e3)
    rw [seq_nx s1]
    simp
theorem outer {S : MH} {fz : MV} {t : Nat} (hS : St S) : ∃ S', turnM (one 2) b2_law (nV t) [some fz, some (.ref 0), none, none, none, none, none, none, none, none, none] S = some (.nx [some fz, some (.ref 0), none, none, none, none, none, none, none, none, none] S') ∧ St S' := by
  obtain ⟨n, m, f, g, L, L2, S1, e1, o1, o2, nm, h1⟩ := orders_ (os := []) hS
  obtain ⟨a, S2, e2, ra, h2⟩ := map_ (os := []) h1 o1 o2 nm
  obtain ⟨b, S3, e3, rb, _, h3⟩ := lower_ (os := []) h2 o1 o2 ra
  obtain ⟨d, S4, e4, hd, h4⟩ := draw (os := []) (m := 3) h3 (by omega) (by omega)
  simp only [List.append_nil] at e1 e2 e3 e4
  have e4' : f_law_draw [.ref 0, .int 3] S3 = ok (.int (d : Int)) S4 := e4
  -- high, low
  obtain ⟨hi, lo, S5, e5, rh, rl, h5⟩ : ∃ hi lo S5, ifS (tstM (opM eqF (callM f_law_draw [] (consA (varM 1) (consA (cM (.int 3)) nilA))) (cM (.int 0)))) (seqS (setS 6 (varM 5))
    (setS 5 (callM f_law_higher [] (consA (varM 1) (consA (varM 3) (consA (varM 4) (consA (varM 6) nilA))))))) nilS [some fz, some (.ref 0), some (nV t), some (owV n f L), some (owV m g L2), some (rowF a), some (rowF b), none, none, none, none] S3 = some (.nx [some fz, some (.ref 0), some (nV t), some (owV n f L), some (owV m g L2), some (rowF hi), some (rowF lo), none, none, none, none] S5) ∧ Ri n m f g hi ∧ Ri n m f g lo ∧ St S5 := by
    by_cases c : d = 0
    · obtain ⟨w, S5, e5, rw_, _, h5⟩ := higher_ (os := []) h4 o1 o2 ra
      simp only [List.append_nil] at e5
      subst c
      exact ⟨w, a, S5, by simp [e4', eqB, e5], rw_, ra, h5⟩
    · exact ⟨a, b, S4, by simp [e4', eqB, c], ra, rb, h4⟩
  obtain ⟨ot, S6, e6, ro, h6⟩ := map_ (os := []) h5 o1 o2 nm
  obtain ⟨z, S7, e7, hz, h7⟩ := draw (os := []) (m := 2) h6 (by omega) (by omega)
  simp only [List.append_nil] at e6 e7
  have e7' : f_law_draw [.ref 0, .int 2] S6 = ok (.int (z : Int)) S7 := e7
  obtain ⟨b', e8⟩ := inner (h := S7) (hi := hi) (lo := lo) (ot := ot) (fz := fz) (x2 := some (nV t)) (ps := [(hi, lo), (lo, hi), (hi, ot), (ot, lo), (hi, hi), (hi, lo)]) (b := decide ((z : Int) = 1)) o1 o2 (by
    intro p hp
    simp at hp
    rcases hp with h | h | h | h | h | h <;> subst h <;> first | exact ⟨rl.toMp, rh.toMp⟩ | exact ⟨rh.toMp, rl.toMp⟩ | exact ⟨rh.toMp, ro.toMp⟩ | exact ⟨ro.toMp, rl.toMp⟩ | exact ⟨rh.toMp, rh.toMp⟩)
  refine ⟨S7, ?_, h7⟩
  show b2_law [some fz, some (.ref 0), some (nV t), none, none, none, none, none, none, none, none] S = _
  unfold b2_law wipT
  rw [seq_nx (s1 := [some fz, some (.ref 0), some (nV t), some (owV n f L), some (owV m g L2), none, none, none, none, none, none]) (h1 := S1) (by simp [e1]),
    seq_nx (s1 := [some fz, some (.ref 0), some (nV t), some (owV n f L), some (owV m g L2), some (rowF a), none, none, none, none, none]) (h1 := S2) (by simp [e2]),
    seq_nx (s1 := [some fz, some (.ref 0), some (nV t), some (owV n f L), some (owV m g L2), some (rowF a), some (rowF b), none, none, none, none]) (h1 := S3) (by simp [e3])]
  rw [seq_nx e5, seq_nx (s1 := [some fz, some (.ref 0), some (nV t), some (owV n f L), some (owV m g L2), some (rowF hi), some (rowF lo), some (rowF ot), none, none, none]) (h1 := S6) (by simp [e6]),
    seq_nx (s1 := [some fz, some (.ref 0), some (nV t), some (owV n f L), some (owV m g L2), some (rowF hi), some (rowF lo), some (rowF ot), some (.bl (decide ((z : Int) = 1))), none, none]) (h1 := S7) (by simp [e7', eqB])]
  have e9 : preW [9, 10] (forM (seqI (flsM (lstM (consA (tupM (consA (varM 5) (consA (varM 6) nilA))) (consA (tupM (consA (varM 6) (consA (varM 5) nilA))) (consA (tupM (consA (varM 5) (consA (varM 7) nilA))) (consA (tupM (consA (varM 7) (consA (varM 6) nilA))) (consA (tupM (consA (varM 5) (consA (varM 5) nilA))) (consA (tupM (consA (varM 5) (consA (varM 6) nilA))) nilA))))))))) (unp [9, 10]) b1_law) [some fz, some (.ref 0), some (nV t), some (owV n f L), some (owV m g L2), some (rowF hi), some (rowF lo), some (rowF ot), some (.bl (decide ((z : Int) = 1))), none, none] S7 =
      some (.nx [some fz, some (.ref 0), some (nV t), some (owV n f L), some (owV m g L2), some (rowF hi), some (rowF lo), some (rowF ot), some (.bl b'), none, none] S7) := by
    generalize hHI : rowF hi = HI at *
    generalize hLO : rowF lo = LO at *
    generalize hOT : rowF ot = OT at *
    simp only [List.map_cons, List.map_nil, hHI, hLO, hOT] at e8
    simp [lim, e8]
  rw [e9]
  rfl
theorem main : ∀ ns : List Int, ns.length ≤ 63 → ∃ h, f_law [.frz (ns.map MV.int)] [] = ok (.bl true) h := fun ns hns => by
  obtain ⟨S0, e0, h0⟩ := start (h := []) hns
  obtain ⟨S1, e1, _, h1⟩ := for_m (f := nV) (bd := turnM (one 2) b2_law) (xs := List.range 2) (a0 := S0) (fun _ : MH => [some (.frz (ns.map MV.int)), some (.ref 0), none, none, none, none, none, none, none, none, none]) (fun S => S) (fun _ S => True ∧ St S) ⟨trivial, h0⟩ fun i x S _ ⟨_, hS⟩ => by
    obtain ⟨S', e, h'⟩ := outer (fz := .frz (ns.map MV.int)) (t := x) hS
    exact ⟨S', .inl e, trivial, h'⟩
  have e1' : forS (turnM (one 2) b2_law) (runOf 0 2) [some (.frz (ns.map MV.int)), some (.ref 0), none, none, none, none, none, none, none, none, none] S0 = some (.nx [some (.frz (ns.map MV.int)), some (.ref 0), none, none, none, none, none, none, none, none, none] S1) := by
    rw [run_m]
    exact e1
  refine ⟨S1, defM_ret rfl ?_⟩
  show m_law [some (.frz (ns.map MV.int)), none, none, none, none, none, none, none, none, none, none] [] = _
  unfold m_law
  rw [seq_nx (s1 := [some (.frz (ns.map MV.int)), some (.ref 0), none, none, none, none, none, none, none, none, none]) (h1 := S0) (by simp [e0]),
    seq_nx (s1 := [some (.frz (ns.map MV.int)), some (.ref 0), none, none, none, none, none, none, none, none, none]) (h1 := S1) (by simp [e1'])]
  rfl
end Mi.k15
set_option maxHeartbeats 8000000
namespace Mi.k15
open PySem L2
def topS (i : Nat) : Stmt := PySem.Challenge.pw_strikecore_k15_steps_down.main.body.getD i (.Pass ⟨0, 0, 0, 0⟩)
abbrev s_law_start : Stmt := topS 22
theorem sc_law_start : FnScope ["script", "cells", "cell"] ["script"] (defScope s_law_start) := ⟨rfl, rfl, rfl, by decide +kernel, rfl, by decide +kernel, by decide +kernel⟩
abbrev s_law_mixed : Stmt := topS 21
theorem sc_law_mixed : FnScope ["cell", "turn", "one", "two"] ["cell", "turn"] (defScope s_law_mixed) := ⟨rfl, rfl, rfl, by decide +kernel, rfl, by decide +kernel, by decide +kernel⟩
abbrev s_law_draw : Stmt := topS 23
theorem sc_law_draw : FnScope ["state", "limit", "turn", "seed", "cell", "found"] ["state", "limit"] (defScope s_law_draw) := ⟨rfl, rfl, rfl, by decide +kernel, rfl, by decide +kernel, by decide +kernel⟩
abbrev s_law_same : Stmt := topS 24
theorem sc_law_same : FnScope ["actual", "due", "k"] ["actual", "due"] (defScope s_law_same) := ⟨rfl, rfl, rfl, by decide +kernel, rfl, by decide +kernel, by decide +kernel⟩
abbrev s_law_at_most : Stmt := topS 27
theorem sc_law_at_most : FnScope ["less", "a", "b"] ["less", "a", "b"] (defScope s_law_at_most) := ⟨rfl, rfl, rfl, by decide +kernel, rfl, by decide +kernel, by decide +kernel⟩
abbrev s_law_map : Stmt := topS 29
theorem sc_law_map : FnScope ["state", "first", "second", "n", "m", "row", "x", "lows", "y", "fits", "v", "a", "value"] ["state", "first", "second"] (defScope s_law_map) := ⟨rfl, rfl, rfl, by decide +kernel, rfl, by decide +kernel, by decide +kernel⟩
abbrev s_law_lower : Stmt := topS 30
theorem sc_law_lower : FnScope ["state", "first", "second", "high", "n", "less", "row", "x", "lows", "y", "fits", "v", "a"] ["state", "first", "second", "high"] (defScope s_law_lower) := ⟨rfl, rfl, rfl, by decide +kernel, rfl, by decide +kernel, by decide +kernel⟩
abbrev s_law_higher : Stmt := topS 31
theorem sc_law_higher : FnScope ["state", "first", "second", "low", "n", "less", "row", "x", "highs", "y", "fits", "v", "a"] ["state", "first", "second", "low"] (defScope s_law_higher) := ⟨rfl, rfl, rfl, by decide +kernel, rfl, by decide +kernel, by decide +kernel⟩
abbrev s_law_lows : Stmt := topS 25
theorem sc_law_lows : FnScope ["state", "earlier", "kind", "one", "a", "k"] ["state", "earlier", "kind"] (defScope s_law_lows) := ⟨rfl, rfl, rfl, by decide +kernel, rfl, by decide +kernel, by decide +kernel⟩
abbrev s_law_order : Stmt := topS 26
theorem sc_law_order : FnScope ["state", "n", "kinds", "line", "k", "kind", "less", "x", "y", "a", "here", "pairs", "near"] ["state", "n", "kinds"] (defScope s_law_order) := ⟨rfl, rfl, rfl, by decide +kernel, rfl, by decide +kernel, by decide +kernel⟩
abbrev s_law_orders : Stmt := topS 32
theorem sc_law_orders : FnScope ["state", "kind", "n", "m"] ["state"] (defScope s_law_orders) := ⟨rfl, rfl, rfl, by decide +kernel, rfl, by decide +kernel, by decide +kernel⟩
abbrev s_lowest_in : Stmt := topS 8
theorem sc_lowest_in : FnScope ["mask", "lowest"] ["mask"] (defScope s_lowest_in) := ⟨rfl, rfl, rfl, by decide +kernel, rfl, by decide +kernel, by decide +kernel⟩
abbrev s_high_masks : Stmt := topS 9
theorem sc_high_masks : FnScope ["order", "n", "pairs", "masks", "x", "y"] ["order"] (defScope s_high_masks) := ⟨rfl, rfl, rfl, by decide +kernel, rfl, by decide +kernel, by decide +kernel⟩
abbrev s_low_masks : Stmt := topS 10
theorem sc_low_masks : FnScope ["order", "n", "pairs", "masks", "x", "y"] ["order"] (defScope s_low_masks) := ⟨rfl, rfl, rfl, by decide +kernel, rfl, by decide +kernel, by decide +kernel⟩
abbrev s_at_most_masks : Stmt := topS 11
theorem sc_at_most_masks : FnScope ["order", "x", "mask"] ["order"] (defScope s_at_most_masks) := ⟨rfl, rfl, rfl, by decide +kernel, rfl, by decide +kernel, by decide +kernel⟩
abbrev s_covers : Stmt := topS 12
theorem sc_covers : FnScope ["order", "highs", "lows", "x", "y"] ["order"] (defScope s_covers) := ⟨rfl, rfl, rfl, by decide +kernel, rfl, by decide +kernel, by decide +kernel⟩
abbrev s_is_below : Stmt := topS 13
theorem sc_is_below : FnScope ["order", "x", "y", "pairs", "start", "end", "middle"] ["order", "x", "y"] (defScope s_is_below) := ⟨rfl, rfl, rfl, by decide +kernel, rfl, by decide +kernel, by decide +kernel⟩
abbrev s_at_most : Stmt := topS 15
theorem sc_at_most : FnScope ["second", "low", "high", "x", "value"] ["second", "low", "high"] (defScope s_at_most) := ⟨rfl, rfl, rfl, by decide +kernel, rfl, by decide +kernel, by decide +kernel⟩
abbrev s_points_in : Stmt := topS 7
theorem sc_points_in : FnScope ["mask", "found", "lowest"] ["mask"] (defScope s_points_in) := ⟨rfl, rfl, rfl, by decide +kernel, rfl, by decide +kernel, by decide +kernel⟩
abbrev s_top_of : Stmt := topS 17
theorem sc_top_of : FnScope ["left", "highs", "x"] ["left", "highs"] (defScope s_top_of) := ⟨rfl, rfl, rfl, by decide +kernel, rfl, by decide +kernel, by decide +kernel⟩
abbrev s_steps_up : Stmt := topS 18
theorem sc_steps_up : FnScope ["first", "second", "low", "high", "highs", "lifts", "bounds", "now", "left", "x", "value", "steps"] ["first", "second", "low", "high"] (defScope s_steps_up) := ⟨rfl, rfl, rfl, by decide +kernel, rfl, by decide +kernel, by decide +kernel⟩
abbrev s_steps_down : Stmt := topS 19
theorem sc_steps_down : FnScope ["first", "second", "high", "low", "now", "back", "x", "value"] ["first", "second", "high", "low"] (defScope s_steps_down) := ⟨rfl, rfl, rfl, by decide +kernel, rfl, by decide +kernel, by decide +kernel⟩
abbrev s_law_asked : Stmt := topS 37
theorem sc_law_asked : FnScope ["first", "second", "high", "low", "named", "other", "e"] ["first", "second", "high", "low", "named"] (defScope s_law_asked) := ⟨rfl, rfl, rfl, by decide +kernel, rfl, by decide +kernel, by decide +kernel⟩
abbrev s_law_covers : Stmt := topS 28
theorem sc_law_covers : FnScope ["less", "a", "b", "z"] ["less", "a", "b"] (defScope s_law_covers) := ⟨rfl, rfl, rfl, by decide +kernel, rfl, by decide +kernel, by decide +kernel⟩
abbrev s_law_next : Stmt := topS 33
theorem sc_law_next : FnScope ["less", "value", "top", "v"] ["less", "value", "top"] (defScope s_law_next) := ⟨rfl, rfl, rfl, by decide +kernel, rfl, by decide +kernel, by decide +kernel⟩
abbrev s_law_up : Stmt := topS 34
theorem sc_law_up : FnScope ["first", "second", "low", "high", "steps", "left", "x", "turn", "tops", "a", "b", "value", "climb"] ["first", "second", "low", "high"] (defScope s_law_up) := ⟨rfl, rfl, rfl, by decide +kernel, rfl, by decide +kernel, by decide +kernel⟩
abbrev s_law_down : Stmt := topS 35
theorem sc_law_down : FnScope ["first", "second", "high", "low", "row", "steps", "x", "value"] ["first", "second", "high", "low"] (defScope s_law_down) := ⟨rfl, rfl, rfl, by decide +kernel, rfl, by decide +kernel, by decide +kernel⟩
abbrev s_law_is_at_most : Stmt := topS 36
theorem sc_law_is_at_most : FnScope ["second", "low", "high", "x"] ["second", "low", "high"] (defScope s_law_is_at_most) := ⟨rfl, rfl, rfl, by decide +kernel, rfl, by decide +kernel, by decide +kernel⟩
abbrev s_law_due : Stmt := topS 38
theorem sc_law_due : FnScope ["first", "second", "high", "low"] ["first", "second", "high", "low"] (defScope s_law_due) := ⟨rfl, rfl, rfl, by decide +kernel, rfl, by decide +kernel, by decide +kernel⟩
abbrev s_law : Stmt := topS 39
theorem sc_law : FnScope ["script", "state", "turn", "first", "second", "high", "low", "other", "named", "a", "b"] ["script"] (defScope s_law) := ⟨rfl, rfl, rfl, by decide +kernel, rfl, by decide +kernel, by decide +kernel⟩
abbrev PP : Program := PySem.Challenge.pw_strikecore_k15_steps_down
structure Txt (K : PySem.W.Frag) (mg : Str → Option Value) where
  a_law_start : Addr
  d_law_start : FuncData
  F_law_start : Fun K "_law_start" "_law_start" s_law_start a_law_start d_law_start
  g_law_start : mg "_law_start" = some (.ref a_law_start)
  a_law_mixed : Addr
  d_law_mixed : FuncData
  F_law_mixed : Fun K "_law_mixed" "_law_mixed" s_law_mixed a_law_mixed d_law_mixed
  g_law_mixed : mg "_law_mixed" = some (.ref a_law_mixed)
  a_law_draw : Addr
  d_law_draw : FuncData
  F_law_draw : Fun K "_law_draw" "_law_draw" s_law_draw a_law_draw d_law_draw
  g_law_draw : mg "_law_draw" = some (.ref a_law_draw)
  a_law_same : Addr
  d_law_same : FuncData
  F_law_same : Fun K "_law_same" "_law_same" s_law_same a_law_same d_law_same
  g_law_same : mg "_law_same" = some (.ref a_law_same)
  a_law_at_most : Addr
  d_law_at_most : FuncData
  F_law_at_most : Fun K "_law_at_most" "_law_at_most" s_law_at_most a_law_at_most d_law_at_most
  g_law_at_most : mg "_law_at_most" = some (.ref a_law_at_most)
  a_law_map : Addr
  d_law_map : FuncData
  F_law_map : Fun K "_law_map" "_law_map" s_law_map a_law_map d_law_map
  g_law_map : mg "_law_map" = some (.ref a_law_map)
  a_law_lower : Addr
  d_law_lower : FuncData
  F_law_lower : Fun K "_law_lower" "_law_lower" s_law_lower a_law_lower d_law_lower
  g_law_lower : mg "_law_lower" = some (.ref a_law_lower)
  a_law_higher : Addr
  d_law_higher : FuncData
  F_law_higher : Fun K "_law_higher" "_law_higher" s_law_higher a_law_higher d_law_higher
  g_law_higher : mg "_law_higher" = some (.ref a_law_higher)
  a_law_lows : Addr
  d_law_lows : FuncData
  F_law_lows : Fun K "_law_lows" "_law_lows" s_law_lows a_law_lows d_law_lows
  g_law_lows : mg "_law_lows" = some (.ref a_law_lows)
  a_law_order : Addr
  d_law_order : FuncData
  F_law_order : Fun K "_law_order" "_law_order" s_law_order a_law_order d_law_order
  g_law_order : mg "_law_order" = some (.ref a_law_order)
  a_law_orders : Addr
  d_law_orders : FuncData
  F_law_orders : Fun K "_law_orders" "_law_orders" s_law_orders a_law_orders d_law_orders
  g_law_orders : mg "_law_orders" = some (.ref a_law_orders)
  a_lowest_in : Addr
  d_lowest_in : FuncData
  F_lowest_in : Fun K "lowest_in" "lowest_in" s_lowest_in a_lowest_in d_lowest_in
  g_lowest_in : mg "lowest_in" = some (.ref a_lowest_in)
  a_high_masks : Addr
  d_high_masks : FuncData
  F_high_masks : Fun K "high_masks" "high_masks" s_high_masks a_high_masks d_high_masks
  g_high_masks : mg "high_masks" = some (.ref a_high_masks)
  a_low_masks : Addr
  d_low_masks : FuncData
  F_low_masks : Fun K "low_masks" "low_masks" s_low_masks a_low_masks d_low_masks
  g_low_masks : mg "low_masks" = some (.ref a_low_masks)
  a_at_most_masks : Addr
  d_at_most_masks : FuncData
  F_at_most_masks : Fun K "at_most_masks" "at_most_masks" s_at_most_masks a_at_most_masks d_at_most_masks
  g_at_most_masks : mg "at_most_masks" = some (.ref a_at_most_masks)
  a_covers : Addr
  d_covers : FuncData
  F_covers : Fun K "covers" "covers" s_covers a_covers d_covers
  g_covers : mg "covers" = some (.ref a_covers)
  a_is_below : Addr
  d_is_below : FuncData
  F_is_below : Fun K "is_below" "is_below" s_is_below a_is_below d_is_below
  g_is_below : mg "is_below" = some (.ref a_is_below)
  a_at_most : Addr
  d_at_most : FuncData
  F_at_most : Fun K "at_most" "at_most" s_at_most a_at_most d_at_most
  g_at_most : mg "at_most" = some (.ref a_at_most)
  a_points_in : Addr
  d_points_in : FuncData
  F_points_in : Fun K "points_in" "points_in" s_points_in a_points_in d_points_in
  g_points_in : mg "points_in" = some (.ref a_points_in)
  a_top_of : Addr
  d_top_of : FuncData
  F_top_of : Fun K "_top_of" "_top_of" s_top_of a_top_of d_top_of
  g_top_of : mg "_top_of" = some (.ref a_top_of)
  a_steps_up : Addr
  d_steps_up : FuncData
  F_steps_up : Fun K "steps_up" "steps_up" s_steps_up a_steps_up d_steps_up
  g_steps_up : mg "steps_up" = some (.ref a_steps_up)
  a_steps_down : Addr
  d_steps_down : FuncData
  F_steps_down : Fun K "steps_down" "steps_down" s_steps_down a_steps_down d_steps_down
  g_steps_down : mg "steps_down" = some (.ref a_steps_down)
  a_law_asked : Addr
  d_law_asked : FuncData
  F_law_asked : Fun K "_law_asked" "_law_asked" s_law_asked a_law_asked d_law_asked
  g_law_asked : mg "_law_asked" = some (.ref a_law_asked)
  a_law_covers : Addr
  d_law_covers : FuncData
  F_law_covers : Fun K "_law_covers" "_law_covers" s_law_covers a_law_covers d_law_covers
  g_law_covers : mg "_law_covers" = some (.ref a_law_covers)
  a_law_next : Addr
  d_law_next : FuncData
  F_law_next : Fun K "_law_next" "_law_next" s_law_next a_law_next d_law_next
  g_law_next : mg "_law_next" = some (.ref a_law_next)
  a_law_up : Addr
  d_law_up : FuncData
  F_law_up : Fun K "_law_up" "_law_up" s_law_up a_law_up d_law_up
  g_law_up : mg "_law_up" = some (.ref a_law_up)
  a_law_down : Addr
  d_law_down : FuncData
  F_law_down : Fun K "_law_down" "_law_down" s_law_down a_law_down d_law_down
  g_law_down : mg "_law_down" = some (.ref a_law_down)
  a_law_is_at_most : Addr
  d_law_is_at_most : FuncData
  F_law_is_at_most : Fun K "_law_is_at_most" "_law_is_at_most" s_law_is_at_most a_law_is_at_most d_law_is_at_most
  g_law_is_at_most : mg "_law_is_at_most" = some (.ref a_law_is_at_most)
  a_law_due : Addr
  d_law_due : FuncData
  F_law_due : Fun K "_law_due" "_law_due" s_law_due a_law_due d_law_due
  g_law_due : mg "_law_due" = some (.ref a_law_due)
  a_law : Addr
  d_law : FuncData
  F_law : Fun K "law" "law" s_law a_law d_law
  g_law : mg "law" = some (.ref a_law)
  b_ValueError : mg "ValueError" = none
  b_bool : mg "bool" = none
  b_enumerate : mg "enumerate" = none
  b_int : mg "int" = none
  b_isinstance : mg "isinstance" = none
  b_len : mg "len" = none
  b_list : mg "list" = none
  b_range : mg "range" = none
  b_str : mg "str" = none
  b_tuple : mg "tuple" = none
  C_BadMap : Addr
  E_BadMap : ErrC K mg "BadMap" C_BadMap
  C_BadStep : Addr
  E_BadStep : ErrC K mg "BadStep" C_BadStep
  C_NotAbove : Addr
  E_NotAbove : ErrC K mg "NotAbove" C_NotAbove
  C_StrikeError : Addr
  E_StrikeError : ErrC K mg "StrikeError" C_StrikeError
  C_TooLarge : Addr
  E_TooLarge : ErrC K mg "TooLarge" C_TooLarge
  xn_NotAbove : PySem.W.excIn K C_NotAbove [.type "ValueError", .type "Exception", .type "BaseException", .type "object"] "ValueError.__new__" = true
  p_NotAbove_BadMap : PySem.W.subIn K (.ref C_NotAbove) (.ref C_BadMap) = some false
  p_NotAbove_BadStep : PySem.W.subIn K (.ref C_NotAbove) (.ref C_BadStep) = some false
  p_NotAbove_StrikeError : PySem.W.subIn K (.ref C_NotAbove) (.ref C_StrikeError) = some true
  p_NotAbove_TooLarge : PySem.W.subIn K (.ref C_NotAbove) (.ref C_TooLarge) = some false
section
variable {w : World} {K : PySem.W.Frag} {mg : Str → Option Value} {base : Heap}
theorem bi_law_start (T : Txt K mg) : Binds K T.d_law_start ["script"] [] := T.F_law_start.binds fun _ _ _ _ _ _ us hl => match us, hl with | [_], _ => rfl
theorem bi_law_mixed (T : Txt K mg) : Binds K T.d_law_mixed ["cell", "turn"] [] := T.F_law_mixed.binds fun _ _ _ _ _ _ us hl => match us, hl with | [_, _], _ => rfl
theorem bi_law_draw (T : Txt K mg) : Binds K T.d_law_draw ["state", "limit"] [] := T.F_law_draw.binds fun _ _ _ _ _ _ us hl => match us, hl with | [_, _], _ => rfl
theorem bi_law_same (T : Txt K mg) : Binds K T.d_law_same ["actual", "due"] [] := T.F_law_same.binds fun _ _ _ _ _ _ us hl => match us, hl with | [_, _], _ => rfl
theorem bi_law_at_most (T : Txt K mg) : Binds K T.d_law_at_most ["less", "a", "b"] [] := T.F_law_at_most.binds fun _ _ _ _ _ _ us hl => match us, hl with | [_, _, _], _ => rfl
theorem bi_law_map (T : Txt K mg) : Binds K T.d_law_map ["state", "first", "second"] [] := T.F_law_map.binds fun _ _ _ _ _ _ us hl => match us, hl with | [_, _, _], _ => rfl
theorem bi_law_lower (T : Txt K mg) : Binds K T.d_law_lower ["state", "first", "second", "high"] [] := T.F_law_lower.binds fun _ _ _ _ _ _ us hl => match us, hl with | [_, _, _, _], _ => rfl
theorem bi_law_higher (T : Txt K mg) : Binds K T.d_law_higher ["state", "first", "second", "low"] [] := T.F_law_higher.binds fun _ _ _ _ _ _ us hl => match us, hl with | [_, _, _, _], _ => rfl
theorem bi_law_lows (T : Txt K mg) : Binds K T.d_law_lows ["state", "earlier", "kind"] [] := T.F_law_lows.binds fun _ _ _ _ _ _ us hl => match us, hl with | [_, _, _], _ => rfl
theorem bi_law_order (T : Txt K mg) : Binds K T.d_law_order ["state", "n", "kinds"] [] := T.F_law_order.binds fun _ _ _ _ _ _ us hl => match us, hl with | [_, _, _], _ => rfl
theorem bi_law_orders (T : Txt K mg) : Binds K T.d_law_orders ["state"] [] := T.F_law_orders.binds fun _ _ _ _ _ _ us hl => match us, hl with | [_], _ => rfl
theorem bi_lowest_in (T : Txt K mg) : Binds K T.d_lowest_in ["mask"] [] := T.F_lowest_in.binds fun _ _ _ _ _ _ us hl => match us, hl with | [_], _ => rfl
theorem bi_high_masks (T : Txt K mg) : Binds K T.d_high_masks ["order"] [] := T.F_high_masks.binds fun _ _ _ _ _ _ us hl => match us, hl with | [_], _ => rfl
theorem bi_low_masks (T : Txt K mg) : Binds K T.d_low_masks ["order"] [] := T.F_low_masks.binds fun _ _ _ _ _ _ us hl => match us, hl with | [_], _ => rfl
theorem bi_at_most_masks (T : Txt K mg) : Binds K T.d_at_most_masks ["order"] [] := T.F_at_most_masks.binds fun _ _ _ _ _ _ us hl => match us, hl with | [_], _ => rfl
theorem bi_covers (T : Txt K mg) : Binds K T.d_covers ["order"] [] := T.F_covers.binds fun _ _ _ _ _ _ us hl => match us, hl with | [_], _ => rfl
theorem bi_is_below (T : Txt K mg) : Binds K T.d_is_below ["order", "x", "y"] [] := T.F_is_below.binds fun _ _ _ _ _ _ us hl => match us, hl with | [_, _, _], _ => rfl
theorem bi_at_most (T : Txt K mg) : Binds K T.d_at_most ["second", "low", "high"] [] := T.F_at_most.binds fun _ _ _ _ _ _ us hl => match us, hl with | [_, _, _], _ => rfl
theorem bi_points_in (T : Txt K mg) : Binds K T.d_points_in ["mask"] [] := T.F_points_in.binds fun _ _ _ _ _ _ us hl => match us, hl with | [_], _ => rfl
theorem bi_top_of (T : Txt K mg) : Binds K T.d_top_of ["left", "highs"] [] := T.F_top_of.binds fun _ _ _ _ _ _ us hl => match us, hl with | [_, _], _ => rfl
theorem bi_steps_up (T : Txt K mg) : Binds K T.d_steps_up ["first", "second", "low", "high"] [] := T.F_steps_up.binds fun _ _ _ _ _ _ us hl => match us, hl with | [_, _, _, _], _ => rfl
theorem bi_steps_down (T : Txt K mg) : Binds K T.d_steps_down ["first", "second", "high", "low"] [] := T.F_steps_down.binds fun _ _ _ _ _ _ us hl => match us, hl with | [_, _, _, _], _ => rfl
theorem kb_steps_down_0 (T : Txt K mg) : KBn K T.d_steps_down ["first", "second", "high", "low"] 0 ["low", "high", "second", "first"] (fun us ws => pick [3, 2, 1, 0] (us ++ ws ++ [])) (fun vs zs => pick [3, 2, 1, 0] (vs ++ zs ++ [])) := by
  obtain ⟨oc, od, kV, doc, pm, an, cdv, ct, osl, e, lk, hcd⟩ := T.F_steps_down.ex
  refine ⟨fun s us ws X h1 h2 => ?_, fun r1 r2 => vals_pick ((r1.append r2).append .nil) _⟩
  rw [e]
  exact BindsTo.of_eq (match us, h1, ws, h2 with | [], _, [_, _, _, _], _ => rfl)
theorem bi_law_asked (T : Txt K mg) : Binds K T.d_law_asked ["first", "second", "high", "low", "named"] [] := T.F_law_asked.binds fun _ _ _ _ _ _ us hl => match us, hl with | [_, _, _, _, _], _ => rfl
theorem bi_law_covers (T : Txt K mg) : Binds K T.d_law_covers ["less", "a", "b"] [] := T.F_law_covers.binds fun _ _ _ _ _ _ us hl => match us, hl with | [_, _, _], _ => rfl
theorem bi_law_next (T : Txt K mg) : Binds K T.d_law_next ["less", "value", "top"] [] := T.F_law_next.binds fun _ _ _ _ _ _ us hl => match us, hl with | [_, _, _], _ => rfl
theorem bi_law_up (T : Txt K mg) : Binds K T.d_law_up ["first", "second", "low", "high"] [] := T.F_law_up.binds fun _ _ _ _ _ _ us hl => match us, hl with | [_, _, _, _], _ => rfl
theorem bi_law_down (T : Txt K mg) : Binds K T.d_law_down ["first", "second", "high", "low"] [] := T.F_law_down.binds fun _ _ _ _ _ _ us hl => match us, hl with | [_, _, _, _], _ => rfl
theorem bi_law_is_at_most (T : Txt K mg) : Binds K T.d_law_is_at_most ["second", "low", "high"] [] := T.F_law_is_at_most.binds fun _ _ _ _ _ _ us hl => match us, hl with | [_, _, _], _ => rfl
theorem bi_law_due (T : Txt K mg) : Binds K T.d_law_due ["first", "second", "high", "low"] [] := T.F_law_due.binds fun _ _ _ _ _ _ us hl => match us, hl with | [_, _, _, _], _ => rfl
theorem bi_law (T : Txt K mg) : Binds K T.d_law ["script"] [] := T.F_law.binds fun _ _ _ _ _ _ us hl => match us, hl with | [_], _ => rfl
theorem ok_law_start (T : Txt K mg) : FnOk PP w K mg base CX0 1 T.a_law_start T.d_law_start ["script"] (spM K mg 1 f_law_start) := fn_mir T.F_law_start sc_law_start fun cdv A outer s H E hr =>
    (ss_cons (s_lcF (tc_one (by decide)) (ps_setLc (i := 1) (own := [("cell", 2)]) rfl sc_law_start.nd rfl rfl (sw_true rfl rfl rfl (by decide +kernel)) (im_seq (em_var (pv 0))) (blkOk_by (by kernel_rfl)) (fun _ _ _ _ _ => (pg_name (i := 2) sc_law_start.nd rfl (by first | exact Or.inl rfl | exact Or.inr rfl))) (fun _ _ _ _ _ => pts_y) (fun _ _ _ _ _ => (em_bty call_int1 cm_int (by rfl) T.b_int PyProof.Rows.boot_int (am_cons (em_var (pv 2)) am_nil)))))
    (ss_one (s_ret (em_ref (lm_lst (am_cons (em_var (pv 1)) (am_cons em_int (am_cons em_int (am_cons em_int (am_cons em_int (am_cons (em_fls (lm_lc (tc_one (by decide)) (pe_lc (own := [("cell", 2)]) rfl sc_law_start.nd (im_seq (em_var (pv 1))) (blkOk_by (by kernel_rfl)) (fun _ _ _ _ _ => (pg_name (i := 2) sc_law_start.nd rfl (by first | exact Or.inl rfl | exact Or.inr rfl))) (fun _ _ _ _ _ => pts_y) (fun _ _ _ _ _ => (em_op op_mod opm_mod (em_bty call_int1 cm_int (by rfl) T.b_int PyProof.Rows.boot_int (am_cons (em_var (pv 2)) am_nil)) em_int))))) am_nil)))))))))))
theorem ok_law_mixed (T : Txt K mg) : FnOk PP w K mg base CX0 1 T.a_law_mixed T.d_law_mixed ["cell", "turn"] (spM K mg 2 f_law_mixed) := fn_mir T.F_law_mixed sc_law_mixed fun cdv A outer s H E hr =>
    (ss_cons (s_set (i := 2) sc_law_mixed.nd rfl (Or.inl rfl) (em_op op_mod opm_mod (em_bty call_int1 cm_int (by rfl) T.b_int PyProof.Rows.boot_int (am_cons (em_op op_addA opm_add (em_op op_addA opm_add (em_op op_mul opm_mul (em_var (pv 0)) em_int) (em_op op_mul opm_mul (em_var (pv 1)) em_int)) em_int) am_nil)) em_int))
    (ss_cons (s_set (i := 3) sc_law_mixed.nd rfl (Or.inl rfl) (em_op op_mod opm_mod (em_bty call_int1 cm_int (by rfl) T.b_int PyProof.Rows.boot_int (am_cons (em_op op_addA opm_add (em_op op_addA opm_add (em_op op_mul opm_mul (em_var (pv 2)) (em_var (pv 2))) (em_op op_mul opm_mul (em_var (pv 1)) em_int)) (em_op op_fdiv opm_div (em_var (pv 2)) em_int)) am_nil)) em_int))
    (ss_one (s_ret (em_op op_mod opm_mod (em_bty call_int1 cm_int (by rfl) T.b_int PyProof.Rows.boot_int (am_cons (em_op op_addA opm_add (em_op op_addA opm_add (em_op op_mul opm_mul (em_var (pv 3)) em_int) (em_op op_fdiv opm_div (em_var (pv 3)) em_int)) (em_var (pv 1))) am_nil)) em_int)))))
theorem ok_law_draw (T : Txt K mg) : FnOk PP w K mg base CX0 2 T.a_law_draw T.d_law_draw ["state", "limit"] (spM K mg 2 f_law_draw) := fn_mir T.F_law_draw sc_law_draw fun cdv A outer s H E hr =>
    (ss_cons (s_sub (em_op op_addA opm_add (em_ix ix_seq opm_ix (em_var (pv 0)) em_int (fun _ _ => rfl)) em_int) (em_var (pv 0)) em_int)
    (ss_cons (s_set (i := 2) sc_law_draw.nd rfl (Or.inl rfl) (em_ix ix_seq opm_ix (em_var (pv 0)) em_int (fun _ _ => rfl)))
    (ss_cons (s_if (bm_w (wm_or (bm_cmp (op_eqA hr.units) opm_eq (em_ix ix_seq opm_ix (em_var (pv 0)) em_int (fun _ _ => rfl)) em_int (nomark _)) (wm_or1 (bm_cmp (op_eqA hr.units) opm_eq (em_ix ix_seq opm_ix (em_var (pv 0)) em_int (fun _ _ => rfl)) em_int (nomark _))))) (ss_cons (s_if (bm_cmp op_ge opm_ge (em_ix ix_seq opm_ix (em_var (pv 0)) em_int (fun _ _ => rfl)) (em_blt call_len cm_len (by rfl) T.b_len PySem.boot_len (am_cons (em_ix ix_seq opm_ix (em_var (pv 0)) em_int (fun _ _ => rfl)) am_nil)) (nomark _)) (ss_cons (s_set (i := 3) sc_law_draw.nd rfl (Or.inl rfl) em_int)
    (ss_cons (s_if (bm_cmp op_gt opm_gt (em_blt call_len cm_len (by rfl) T.b_len PySem.boot_len (am_cons (em_ix ix_seq opm_ix (em_var (pv 0)) em_int (fun _ _ => rfl)) am_nil)) em_int (nomark _)) (ss_one (s_set (i := 3) sc_law_draw.nd rfl (Or.inl rfl) (em_ix ix_seq opm_ix (em_ix ix_seq opm_ix (em_var (pv 0)) em_int (fun _ _ => rfl)) (em_op op_mod opm_mod (em_bty call_int1 cm_int (by rfl) T.b_int PyProof.Rows.boot_int (am_cons (em_var (pv 2)) am_nil)) (em_blt call_len cm_len (by rfl) T.b_len PySem.boot_len (am_cons (em_ix ix_seq opm_ix (em_var (pv 0)) em_int (fun _ _ => rfl)) am_nil))) (fun _ _ => rfl)))) ss_nil)
    (ss_one (s_ret (em_op op_mod opm_mod (em_bty call_int1 cm_int (by rfl) T.b_int PyProof.Rows.boot_int (am_cons (em_call (ok_law_mixed T) n_law_mixed (hr.mono (by decide)) (by rfl) T.g_law_mixed T.F_law_mixed.kp (bi_law_mixed T) .nil (fun _ => .nil) (am_cons (em_var (pv 3)) (am_cons (em_var (pv 2)) am_nil))) am_nil)) (em_var (pv 1))))))) ss_nil)
    (ss_cons (s_set (i := 4) sc_law_draw.nd rfl (Or.inl rfl) (em_ix ix_seq opm_ix (em_ix ix_seq opm_ix (em_var (pv 0)) em_int (fun _ _ => rfl)) (em_ix ix_seq opm_ix (em_var (pv 0)) em_int (fun _ _ => rfl)) (fun _ _ => rfl)))
    (ss_cons (s_sub (em_op op_addA opm_add (em_ix ix_seq opm_ix (em_var (pv 0)) em_int (fun _ _ => rfl)) em_int) (em_var (pv 0)) em_int)
    (ss_cons (s_if (bm_w (wm_or (bm_cmp op_lt opm_lt (em_var (pv 4)) em_int (nomark _)) (wm_or1 (bm_cmp (op_eqA hr.units) opm_eq (em_op op_mod opm_mod (em_bty call_int1 cm_int (by rfl) T.b_int PyProof.Rows.boot_int (am_cons (em_var (pv 4)) am_nil)) em_int) em_int (nomark _))))) (ss_one (s_ret (em_op op_mod opm_mod (em_bty call_int1 cm_int (by rfl) T.b_int PyProof.Rows.boot_int (am_cons (em_call (ok_law_mixed T) n_law_mixed (hr.mono (by decide)) (by rfl) T.g_law_mixed T.F_law_mixed.kp (bi_law_mixed T) .nil (fun _ => .nil) (am_cons (em_ix ix_seq opm_ix (em_ix ix_seq opm_ix (em_var (pv 0)) em_int (fun _ _ => rfl)) (em_op op_sub opm_sub (em_ix ix_seq opm_ix (em_var (pv 0)) em_int (fun _ _ => rfl)) em_int) (fun _ _ => rfl)) (am_cons (em_var (pv 2)) am_nil))) am_nil)) (em_var (pv 1))))) ss_nil)
    (ss_cons (s_sub (em_op op_fdiv opm_div (em_var (pv 4)) em_int) (em_var (pv 0)) em_int)
    (ss_one (s_sub em_int (em_var (pv 0)) em_int))))))) ss_nil)
    (ss_cons (s_set (i := 5) sc_law_draw.nd rfl (Or.inl rfl) (em_op op_mod opm_mod (em_bty call_int1 cm_int (by rfl) T.b_int PyProof.Rows.boot_int (am_cons (em_ix ix_seq opm_ix (em_var (pv 0)) em_int (fun _ _ => rfl)) am_nil)) (em_var (pv 1))))
    (ss_cons (s_sub (em_op op_fdiv opm_div (em_ix ix_seq opm_ix (em_var (pv 0)) em_int (fun _ _ => rfl)) (em_var (pv 1))) (em_var (pv 0)) em_int)
    (ss_cons (s_sub (em_op op_sub opm_sub (em_ix ix_seq opm_ix (em_var (pv 0)) em_int (fun _ _ => rfl)) em_int) (em_var (pv 0)) em_int)
    (ss_one (s_ret (em_var (pv 5))))))))))
theorem okr_law_same (T : Txt K mg) : ∀ j : Nat, FnOk PP w K mg base CX0 (1 + j) T.a_law_same T.d_law_same ["actual", "due"] (spM K mg 2 (fr_law_same j))
  | 0 => by
    refine ⟨fun vs H Q E h => ?_, fun A outer s H args us vs Q E hr e0 hb r h => ?_⟩
    · obtain ⟨W, h, xs, _, _, _, _, p⟩ := h
      exact p.elim
    · obtain ⟨W, h, xs, _, _, _, _, p⟩ := h
      exact p.elim
  | j + 1 => by
    have ih := okr_law_same T j
    have hn := nr_law_same j
    refine fn_mir (k := 1 + j) T.F_law_same sc_law_same fun cdv A outer s H E hr => ?_
    exact (ss_cons (s_if (bm_w (wm_or (bm_truth (em_isi .tuple (by decide) (by rfl) T.b_isinstance (pe_bltn (by rfl) T.b_tuple PyProof.Rows.boot_tuple rfl) (em_var (pv 1))) fun _ => rfl) (wm_or1 (bm_truth (em_isi .list (by decide) (by rfl) T.b_isinstance (pe_bltn (by rfl) T.b_list PyProof.Rows.boot_list rfl) (em_var (pv 1))) fun _ => rfl)))) (ss_cons (s_if (bm_w (wm_or (bm_cmp (op_neA hr.units) opm_ne (em_isi .tuple (by decide) (by rfl) T.b_isinstance (pe_bltn (by rfl) T.b_tuple PyProof.Rows.boot_tuple rfl) (em_var (pv 1))) (em_isi .tuple (by decide) (by rfl) T.b_isinstance (pe_bltn (by rfl) T.b_tuple PyProof.Rows.boot_tuple rfl) (em_var (pv 0))) (nomark _)) (wm_or1 (bm_cmp (op_neA hr.units) opm_ne (em_isi .list (by decide) (by rfl) T.b_isinstance (pe_bltn (by rfl) T.b_list PyProof.Rows.boot_list rfl) (em_var (pv 1))) (em_isi .list (by decide) (by rfl) T.b_isinstance (pe_bltn (by rfl) T.b_list PyProof.Rows.boot_list rfl) (em_var (pv 0))) (nomark _))))) (ss_one (s_ret em_bl)) ss_nil)
    (ss_cons (s_if (bm_cmp (op_neA hr.units) opm_ne (em_blt call_len cm_len (by rfl) T.b_len PySem.boot_len (am_cons (em_var (pv 0)) am_nil)) (em_blt call_len cm_len (by rfl) T.b_len PySem.boot_len (am_cons (em_var (pv 1)) am_nil)) (nomark _)) (ss_one (s_ret em_bl)) ss_nil)
    (ss_cons (s_pre (vs := [2]) (s_for PassesOwn.never rfl (im_rng1 (by rfl) T.b_range (am_cons (em_blt call_len cm_len (by rfl) T.b_len PySem.boot_len (am_cons (em_var (pv 1)) am_nil)) am_nil)) (pg_name (i := 2) sc_law_same.nd rfl (by first | exact Or.inl rfl | exact Or.inr rfl)) (tg_one 2) (ss_wip (vs := [2]) (ss_one (s_if (bm_not (bm_truth (em_call (ih) (hn) (hr.mono (by omega)) (by rfl) T.g_law_same T.F_law_same.kp (bi_law_same T) .nil (fun _ => .nil) (am_cons (em_ix ix_seq opm_ix (em_var (pv 0)) (em_var (pv 2)) (fun _ _ => rfl)) (am_cons (em_ix ix_seq opm_ix (em_var (pv 1)) (em_var (pv 2)) (fun _ _ => rfl)) am_nil))) fun _ => rfl)) (ss_one (s_ret em_bl)) ss_nil)))))
    (ss_one (s_ret em_bl))))) ss_nil)
    (ss_cons (s_if (bm_cmp op_isN opm_isn (em_var (pv 1)) em_non (nomark _)) (ss_one (s_ret (em_cmp op_isN opm_isn (em_var (pv 0)) em_non (nomark _)))) ss_nil)
    (ss_cons (s_if (bm_truth (em_isi .bool (by decide) (by rfl) T.b_isinstance (pe_bltn (by rfl) T.b_bool (by decide +kernel) rfl) (em_var (pv 1))) fun _ => rfl) (ss_one (s_ret (em_and (em_isi .bool (by decide) (by rfl) T.b_isinstance (pe_bltn (by rfl) T.b_bool (by decide +kernel) rfl) (em_var (pv 0))) (em_one (em_cmp (op_eqA hr.units) opm_eq (em_var (pv 0)) (em_var (pv 1)) (nomark _)))))) ss_nil)
    (ss_cons (s_if (bm_truth (em_isi .int (by decide) (by rfl) T.b_isinstance (pe_bltn (by rfl) T.b_int PyProof.Rows.boot_int rfl) (em_var (pv 1))) fun _ => rfl) (ss_one (s_ret (em_and (em_isi .int (by decide) (by rfl) T.b_isinstance (pe_bltn (by rfl) T.b_int PyProof.Rows.boot_int rfl) (em_var (pv 0))) (em_and (em_not (em_isi .bool (by decide) (by rfl) T.b_isinstance (pe_bltn (by rfl) T.b_bool (by decide +kernel) rfl) (em_var (pv 0)))) (em_one (em_cmp (op_eqA hr.units) opm_eq (em_var (pv 0)) (em_var (pv 1)) (nomark _))))))) ss_nil)
    (ss_one (s_ret (em_and (em_isi .str (by decide) (by rfl) T.b_isinstance (pe_bltn (by rfl) T.b_str PyProof.Rows.boot_str rfl) (em_var (pv 0))) (em_one (em_cmp (op_eqA hr.units) opm_eq (em_var (pv 0)) (em_var (pv 1)) (nomark _))))))))))
theorem ok_law_same (T : Txt K mg) : FnOk PP w K mg base CX0 7 T.a_law_same T.d_law_same ["actual", "due"] (spM K mg 2 f_law_same) := okr_law_same T 6
theorem ok_law_at_most (T : Txt K mg) : FnOk PP w K mg base CX0 1 T.a_law_at_most T.d_law_at_most ["less", "a", "b"] (spM K mg 3 f_law_at_most) := fn_mir T.F_law_at_most sc_law_at_most fun cdv A outer s H E hr =>
    (ss_one (s_ret (em_or (em_cmp (op_eqA hr.units) opm_eq (em_var (pv 1)) (em_var (pv 2)) (nomark _)) (em_one (em_ix ix_seq opm_ix (em_ix ix_seq opm_ix (em_var (pv 0)) (em_var (pv 1)) (fun _ _ => rfl)) (em_var (pv 2)) (fun _ _ => rfl))))))
theorem ok_law_map (T : Txt K mg) : FnOk PP w K mg base CX0 3 T.a_law_map T.d_law_map ["state", "first", "second"] (spM K mg 3 f_law_map) := (fn_mir (k := 2) (m := m_law_map) T.F_law_map sc_law_map fun cdv A outer s H E hr =>
    (ss_cons (s_set (i := 3) sc_law_map.nd rfl (Or.inl rfl) (em_blt call_len cm_len (by rfl) T.b_len PySem.boot_len (am_cons (em_ix ix_seq opm_ix (em_var (pv 1)) em_int (fun _ _ => rfl)) am_nil)))
    (ss_cons (s_set (i := 4) sc_law_map.nd rfl (Or.inl rfl) (em_blt call_len cm_len (by rfl) T.b_len PySem.boot_len (am_cons (em_ix ix_seq opm_ix (em_var (pv 2)) em_int (fun _ _ => rfl)) am_nil)))
    (ss_cons (s_set (i := 5) sc_law_map.nd rfl (Or.inr rfl) (em_ref (lm_rep (em_fls (lm_lst (am_cons em_int am_nil))) (em_var (pv 3)))))
    (ss_cons (s_pre (vs := [6, 7, 9, 12]) (s_for PassesOwn.never rfl (im_seq (em_ix ix_seq opm_ix (em_var (pv 1)) em_int (fun _ _ => rfl))) (pg_name (i := 6) sc_law_map.nd rfl (by first | exact Or.inl rfl | exact Or.inr rfl)) (tg_one 6) (ss_wip (vs := [6, 7, 9, 12]) (ss_cons (s_set (i := 7) sc_law_map.nd rfl (Or.inr rfl) (em_fls (lm_lc (tc_one (by decide)) (pe_lc (own := [("y", 8)]) rfl sc_law_map.nd (im_rng1 (by rfl) T.b_range (am_cons (em_var (pv 3)) am_nil)) (blkOk_by (by kernel_rfl)) (fun _ _ _ _ _ => (pg_name (i := 8) sc_law_map.nd rfl (by first | exact Or.inl rfl | exact Or.inr rfl))) (fun _ _ _ _ _ => (pts_M (bm_truth (em_ix ix_seq opm_ix (em_ix ix_seq opm_ix (em_ix ix_seq opm_ix (em_var (pv 1)) em_int (fun _ _ => rfl)) (em_var (pv 8)) (fun _ _ => rfl)) (em_var (pv 6)) (fun _ _ => rfl)) fun _ => rfl))) (fun _ _ _ _ _ => (em_ix ix_seq opm_ix (em_var (pv 5)) (em_var (pv 8)) (fun _ _ => rfl)))))))
    (ss_cons (s_lcF (tc_one (by decide)) (ps_setLc (i := 9) (own := [("v", 10)]) rfl sc_law_map.nd rfl rfl (sw_true rfl rfl rfl (by decide +kernel)) (im_rng1 (by rfl) T.b_range (am_cons (em_var (pv 4)) am_nil)) (blkOk_by (by kernel_rfl)) (fun _ _ _ _ _ => (pg_name (i := 10) sc_law_map.nd rfl (by first | exact Or.inl rfl | exact Or.inr rfl))) (fun _ _ _ _ _ => (pts_M (bm_cmp (op_eqA hr.units) opm_eq (em_blt call_len cm_len (by rfl) T.b_len PySem.boot_len (am_cons (em_fls (lm_lc (tc_one (by decide)) (pe_lc (own := [("a", 11)]) rfl sc_law_map.nd (im_seq (em_var (pv 7))) (blkOk_by (by kernel_rfl)) (fun _ _ _ _ _ => (pg_name (i := 11) sc_law_map.nd rfl (by first | exact Or.inl rfl | exact Or.inr rfl))) (fun _ _ _ _ _ => (pts_M (bm_not (bm_truth (em_call (ok_law_at_most T) n_law_at_most (hr.mono (by decide)) (by rfl) T.g_law_at_most T.F_law_at_most.kp (bi_law_at_most T) .nil (fun _ => .nil) (am_cons (em_ix ix_seq opm_ix (em_var (pv 2)) em_int (fun _ _ => rfl)) (am_cons (em_var (pv 11)) (am_cons (em_var (pv 10)) am_nil)))) fun _ => rfl)))) (fun _ _ _ _ _ => (em_var (pv 11)))))) am_nil)) em_int (nomark _)))) (fun _ _ _ _ _ => (em_var (pv 10)))))
    (ss_cons (s_if (bm_cmp (op_eqA hr.units) opm_eq (em_blt call_len cm_len (by rfl) T.b_len PySem.boot_len (am_cons (em_var (pv 9)) am_nil)) em_int (nomark _)) (ss_cons (s_set (i := 12) sc_law_map.nd rfl (Or.inl rfl) (em_call (ok_law_draw T) n_law_draw (hr.mono (by decide)) (by rfl) T.g_law_draw T.F_law_draw.kp (bi_law_draw T) .nil (fun _ => .nil) (am_cons (em_var (pv 0)) (am_cons (em_var (pv 4)) am_nil))))
    (ss_one (s_ret (em_fls (lm_rep (em_fls (lm_lst (am_cons (em_var (pv 12)) am_nil))) (em_var (pv 3))))))) ss_nil)
    (ss_one (s_sub (em_ix ix_seq opm_ix (em_var (pv 9)) (em_call (ok_law_draw T) n_law_draw (hr.mono (by decide)) (by rfl) T.g_law_draw T.F_law_draw.kp (bi_law_draw T) .nil (fun _ => .nil) (am_cons (em_var (pv 0)) (am_cons (em_blt call_len cm_len (by rfl) T.b_len PySem.boot_len (am_cons (em_var (pv 9)) am_nil)) am_nil))) (fun _ _ => rfl)) (em_var (pv 5)) (em_var (pv 6))))))))))
    (ss_one (s_ret (em_frz (em_var (pv 5)))))))))).imp cut_sp
theorem ok_law_lower (T : Txt K mg) : FnOk PP w K mg base CX0 3 T.a_law_lower T.d_law_lower ["state", "first", "second", "high"] (spM K mg 4 f_law_lower) := (fn_mir (k := 2) (m := m_law_lower) T.F_law_lower sc_law_lower fun cdv A outer s H E hr =>
    (ss_cons (s_set (i := 4) sc_law_lower.nd rfl (Or.inl rfl) (em_blt call_len cm_len (by rfl) T.b_len PySem.boot_len (am_cons (em_ix ix_seq opm_ix (em_var (pv 1)) em_int (fun _ _ => rfl)) am_nil)))
    (ss_cons (s_set (i := 5) sc_law_lower.nd rfl (Or.inr rfl) (em_ix ix_seq opm_ix (em_var (pv 2)) em_int (fun _ _ => rfl)))
    (ss_cons (s_set (i := 6) sc_law_lower.nd rfl (Or.inr rfl) (em_ref (lm_rep (em_fls (lm_lst (am_cons em_int am_nil))) (em_var (pv 4)))))
    (ss_cons (s_pre (vs := [7, 8, 10]) (s_for PassesOwn.never rfl (im_seq (em_ix ix_seq opm_ix (em_var (pv 1)) em_int (fun _ _ => rfl))) (pg_name (i := 7) sc_law_lower.nd rfl (by first | exact Or.inl rfl | exact Or.inr rfl)) (tg_one 7) (ss_wip (vs := [7, 8, 10]) (ss_cons (s_set (i := 8) sc_law_lower.nd rfl (Or.inr rfl) (em_fls (lm_lc (tc_one (by decide)) (pe_lc (own := [("y", 9)]) rfl sc_law_lower.nd (im_rng1 (by rfl) T.b_range (am_cons (em_var (pv 4)) am_nil)) (blkOk_by (by kernel_rfl)) (fun _ _ _ _ _ => (pg_name (i := 9) sc_law_lower.nd rfl (by first | exact Or.inl rfl | exact Or.inr rfl))) (fun _ _ _ _ _ => (pts_M (bm_truth (em_ix ix_seq opm_ix (em_ix ix_seq opm_ix (em_ix ix_seq opm_ix (em_var (pv 1)) em_int (fun _ _ => rfl)) (em_var (pv 9)) (fun _ _ => rfl)) (em_var (pv 7)) (fun _ _ => rfl)) fun _ => rfl))) (fun _ _ _ _ _ => (em_ix ix_seq opm_ix (em_var (pv 6)) (em_var (pv 9)) (fun _ _ => rfl)))))))
    (ss_cons (s_lcF (tc_one (by decide)) (ps_setLc (i := 10) (own := [("v", 11)]) rfl sc_law_lower.nd rfl rfl (sw_true rfl rfl rfl (by decide +kernel)) (im_rng1 (by rfl) T.b_range (am_cons (em_blt call_len cm_len (by rfl) T.b_len PySem.boot_len (am_cons (em_var (pv 5)) am_nil)) am_nil)) (blkOk_by (by kernel_rfl)) (fun _ _ _ _ _ => (pg_name (i := 11) sc_law_lower.nd rfl (by first | exact Or.inl rfl | exact Or.inr rfl))) (fun _ _ _ _ _ => (pts_M (bm_truth (em_call (ok_law_at_most T) n_law_at_most (hr.mono (by decide)) (by rfl) T.g_law_at_most T.F_law_at_most.kp (bi_law_at_most T) .nil (fun _ => .nil) (am_cons (em_var (pv 5)) (am_cons (em_var (pv 11)) (am_cons (em_ix ix_seq opm_ix (em_var (pv 3)) (em_var (pv 7)) (fun _ _ => rfl)) am_nil)))) fun _ => rfl))) (fun _ _ _ _ _ => (em_var (pv 11)))))
    (ss_cons (s_lcF (tc_one (by decide)) (ps_setLc (i := 10) (own := [("v", 11)]) rfl sc_law_lower.nd rfl rfl (sw_true rfl rfl rfl (by decide +kernel)) (im_seq (em_var (pv 10))) (blkOk_by (by kernel_rfl)) (fun _ _ _ _ _ => (pg_name (i := 11) sc_law_lower.nd rfl (by first | exact Or.inl rfl | exact Or.inr rfl))) (fun _ _ _ _ _ => (pts_M (bm_cmp (op_eqA hr.units) opm_eq (em_blt call_len cm_len (by rfl) T.b_len PySem.boot_len (am_cons (em_fls (lm_lc (tc_one (by decide)) (pe_lc (own := [("a", 12)]) rfl sc_law_lower.nd (im_seq (em_var (pv 8))) (blkOk_by (by kernel_rfl)) (fun _ _ _ _ _ => (pg_name (i := 12) sc_law_lower.nd rfl (by first | exact Or.inl rfl | exact Or.inr rfl))) (fun _ _ _ _ _ => (pts_M (bm_not (bm_truth (em_call (ok_law_at_most T) n_law_at_most (hr.mono (by decide)) (by rfl) T.g_law_at_most T.F_law_at_most.kp (bi_law_at_most T) .nil (fun _ => .nil) (am_cons (em_var (pv 5)) (am_cons (em_var (pv 12)) (am_cons (em_var (pv 11)) am_nil)))) fun _ => rfl)))) (fun _ _ _ _ _ => (em_var (pv 12)))))) am_nil)) em_int (nomark _)))) (fun _ _ _ _ _ => (em_var (pv 11)))))
    (ss_one (s_sub (em_ix ix_seq opm_ix (em_var (pv 10)) (em_call (ok_law_draw T) n_law_draw (hr.mono (by decide)) (by rfl) T.g_law_draw T.F_law_draw.kp (bi_law_draw T) .nil (fun _ => .nil) (am_cons (em_var (pv 0)) (am_cons (em_blt call_len cm_len (by rfl) T.b_len PySem.boot_len (am_cons (em_var (pv 10)) am_nil)) am_nil))) (fun _ _ => rfl)) (em_var (pv 6)) (em_var (pv 7))))))))))
    (ss_one (s_ret (em_frz (em_var (pv 6)))))))))).imp cut_sp
theorem ok_law_higher (T : Txt K mg) : FnOk PP w K mg base CX0 3 T.a_law_higher T.d_law_higher ["state", "first", "second", "low"] (spM K mg 4 f_law_higher) := (fn_mir (k := 2) (m := m_law_higher) T.F_law_higher sc_law_higher fun cdv A outer s H E hr =>
    (ss_cons (s_set (i := 4) sc_law_higher.nd rfl (Or.inl rfl) (em_blt call_len cm_len (by rfl) T.b_len PySem.boot_len (am_cons (em_ix ix_seq opm_ix (em_var (pv 1)) em_int (fun _ _ => rfl)) am_nil)))
    (ss_cons (s_set (i := 5) sc_law_higher.nd rfl (Or.inr rfl) (em_ix ix_seq opm_ix (em_var (pv 2)) em_int (fun _ _ => rfl)))
    (ss_cons (s_set (i := 6) sc_law_higher.nd rfl (Or.inr rfl) (em_ref (lm_rep (em_fls (lm_lst (am_cons em_int am_nil))) (em_var (pv 4)))))
    (ss_cons (s_pre (vs := [7, 8, 10]) (s_for PassesOwn.never rfl (im_seq (em_fls (lm_rvs (em_ix ix_seq opm_ix (em_var (pv 1)) em_int (fun _ _ => rfl))))) (pg_name (i := 7) sc_law_higher.nd rfl (by first | exact Or.inl rfl | exact Or.inr rfl)) (tg_one 7) (ss_wip (vs := [7, 8, 10]) (ss_cons (s_set (i := 8) sc_law_higher.nd rfl (Or.inr rfl) (em_fls (lm_lc (tc_one (by decide)) (pe_lc (own := [("y", 9)]) rfl sc_law_higher.nd (im_rng1 (by rfl) T.b_range (am_cons (em_var (pv 4)) am_nil)) (blkOk_by (by kernel_rfl)) (fun _ _ _ _ _ => (pg_name (i := 9) sc_law_higher.nd rfl (by first | exact Or.inl rfl | exact Or.inr rfl))) (fun _ _ _ _ _ => (pts_M (bm_truth (em_ix ix_seq opm_ix (em_ix ix_seq opm_ix (em_ix ix_seq opm_ix (em_var (pv 1)) em_int (fun _ _ => rfl)) (em_var (pv 7)) (fun _ _ => rfl)) (em_var (pv 9)) (fun _ _ => rfl)) fun _ => rfl))) (fun _ _ _ _ _ => (em_ix ix_seq opm_ix (em_var (pv 6)) (em_var (pv 9)) (fun _ _ => rfl)))))))
    (ss_cons (s_lcF (tc_one (by decide)) (ps_setLc (i := 10) (own := [("v", 11)]) rfl sc_law_higher.nd rfl rfl (sw_true rfl rfl rfl (by decide +kernel)) (im_rng1 (by rfl) T.b_range (am_cons (em_blt call_len cm_len (by rfl) T.b_len PySem.boot_len (am_cons (em_var (pv 5)) am_nil)) am_nil)) (blkOk_by (by kernel_rfl)) (fun _ _ _ _ _ => (pg_name (i := 11) sc_law_higher.nd rfl (by first | exact Or.inl rfl | exact Or.inr rfl))) (fun _ _ _ _ _ => (pts_M (bm_truth (em_call (ok_law_at_most T) n_law_at_most (hr.mono (by decide)) (by rfl) T.g_law_at_most T.F_law_at_most.kp (bi_law_at_most T) .nil (fun _ => .nil) (am_cons (em_var (pv 5)) (am_cons (em_ix ix_seq opm_ix (em_var (pv 3)) (em_var (pv 7)) (fun _ _ => rfl)) (am_cons (em_var (pv 11)) am_nil)))) fun _ => rfl))) (fun _ _ _ _ _ => (em_var (pv 11)))))
    (ss_cons (s_lcF (tc_one (by decide)) (ps_setLc (i := 10) (own := [("v", 11)]) rfl sc_law_higher.nd rfl rfl (sw_true rfl rfl rfl (by decide +kernel)) (im_seq (em_var (pv 10))) (blkOk_by (by kernel_rfl)) (fun _ _ _ _ _ => (pg_name (i := 11) sc_law_higher.nd rfl (by first | exact Or.inl rfl | exact Or.inr rfl))) (fun _ _ _ _ _ => (pts_M (bm_cmp (op_eqA hr.units) opm_eq (em_blt call_len cm_len (by rfl) T.b_len PySem.boot_len (am_cons (em_fls (lm_lc (tc_one (by decide)) (pe_lc (own := [("a", 12)]) rfl sc_law_higher.nd (im_seq (em_var (pv 8))) (blkOk_by (by kernel_rfl)) (fun _ _ _ _ _ => (pg_name (i := 12) sc_law_higher.nd rfl (by first | exact Or.inl rfl | exact Or.inr rfl))) (fun _ _ _ _ _ => (pts_M (bm_not (bm_truth (em_call (ok_law_at_most T) n_law_at_most (hr.mono (by decide)) (by rfl) T.g_law_at_most T.F_law_at_most.kp (bi_law_at_most T) .nil (fun _ => .nil) (am_cons (em_var (pv 5)) (am_cons (em_var (pv 11)) (am_cons (em_var (pv 12)) am_nil)))) fun _ => rfl)))) (fun _ _ _ _ _ => (em_var (pv 12)))))) am_nil)) em_int (nomark _)))) (fun _ _ _ _ _ => (em_var (pv 11)))))
    (ss_one (s_sub (em_ix ix_seq opm_ix (em_var (pv 10)) (em_call (ok_law_draw T) n_law_draw (hr.mono (by decide)) (by rfl) T.g_law_draw T.F_law_draw.kp (bi_law_draw T) .nil (fun _ => .nil) (am_cons (em_var (pv 0)) (am_cons (em_blt call_len cm_len (by rfl) T.b_len PySem.boot_len (am_cons (em_var (pv 10)) am_nil)) am_nil))) (fun _ _ => rfl)) (em_var (pv 6)) (em_var (pv 7))))))))))
    (ss_one (s_ret (em_frz (em_var (pv 6)))))))))).imp cut_sp
theorem ok_law_lows (T : Txt K mg) : FnOk PP w K mg base CX0 3 T.a_law_lows T.d_law_lows ["state", "earlier", "kind"] (spM K mg 3 f_law_lows) := fn_mir T.F_law_lows sc_law_lows fun cdv A outer s H E hr =>
    (ss_cons (s_if (bm_cmp (op_eqA hr.units) opm_eq (em_blt call_len cm_len (by rfl) T.b_len PySem.boot_len (am_cons (em_var (pv 1)) am_nil)) em_int (nomark _)) (ss_one (s_ret (em_fls (lm_lst am_nil)))) ss_nil)
    (ss_cons (s_set (i := 3) sc_law_lows.nd rfl (Or.inl rfl) (em_ix ix_seq opm_ix (em_var (pv 1)) (em_call (ok_law_draw T) n_law_draw (hr.mono (by decide)) (by rfl) T.g_law_draw T.F_law_draw.kp (bi_law_draw T) .nil (fun _ => .nil) (am_cons (em_var (pv 0)) (am_cons (em_blt call_len cm_len (by rfl) T.b_len PySem.boot_len (am_cons (em_var (pv 1)) am_nil)) am_nil))) (fun _ _ => rfl)))
    (ss_cons (s_if (bm_cmp op_lt opm_lt (em_var (pv 2)) em_int (nomark _)) (ss_one (s_ret (em_fls (lm_rep (em_fls (lm_lst (am_cons (em_var (pv 3)) am_nil))) (em_bty call_int1 cm_int (by rfl) T.b_int PyProof.Rows.boot_int (am_cons (em_cmp op_ge opm_ge (em_call (ok_law_draw T) n_law_draw (hr.mono (by decide)) (by rfl) T.g_law_draw T.F_law_draw.kp (bi_law_draw T) .nil (fun _ => .nil) (am_cons (em_var (pv 0)) (am_cons em_int am_nil))) (em_ix ix_seq opm_ix (em_fls (lm_lst (am_cons em_int (am_cons em_int am_nil)))) (em_var (pv 2)) (fun _ _ => rfl)) (nomark _)) am_nil)))))) ss_nil)
    (ss_cons (s_if (bm_cmp (op_eqA hr.units) opm_eq (em_var (pv 2)) em_int (nomark _)) (ss_one (s_ret (em_fls (lm_lc (tc_one (by decide)) (pe_lc (own := [("a", 4)]) rfl sc_law_lows.nd (im_seq (em_sli (em_var (pv 1)) om_none (om_some em_int))) (blkOk_by (by kernel_rfl)) (fun _ _ _ _ _ => (pg_name (i := 4) sc_law_lows.nd rfl (by first | exact Or.inl rfl | exact Or.inr rfl))) (fun _ _ _ _ _ => (pts_M (bm_cmp (op_eqA hr.units) opm_eq (em_call (ok_law_draw T) n_law_draw (hr.mono (by decide)) (by rfl) T.g_law_draw T.F_law_draw.kp (bi_law_draw T) .nil (fun _ => .nil) (am_cons (em_var (pv 0)) (am_cons em_int am_nil))) em_int (nomark _)))) (fun _ _ _ _ _ => (em_var (pv 4)))))))) ss_nil)
    (ss_cons (s_if (bm_cmp (op_eqA hr.units) opm_eq (em_var (pv 2)) em_int (nomark _)) (ss_one (s_ret (em_sli (em_var (pv 1)) (om_some (em_un un_neg unm_neg em_int)) om_none))) ss_nil)
    (ss_one (s_ret (em_fls (lm_cat (em_fls (lm_lst (am_cons (em_var (pv 3)) am_nil))) (em_fls (lm_lc (tc_one (by decide)) (pe_lc (own := [("k", 5)]) rfl sc_law_lows.nd (im_rng1 (by rfl) T.b_range (am_cons (em_call (ok_law_draw T) n_law_draw (hr.mono (by decide)) (by rfl) T.g_law_draw T.F_law_draw.kp (bi_law_draw T) .nil (fun _ => .nil) (am_cons (em_var (pv 0)) (am_cons (em_op op_sub opm_sub (em_var (pv 2)) em_int) am_nil))) am_nil)) (blkOk_by (by kernel_rfl)) (fun _ _ _ _ _ => (pg_name (i := 5) sc_law_lows.nd rfl (by first | exact Or.inl rfl | exact Or.inr rfl))) (fun _ _ _ _ _ => pts_y) (fun _ _ _ _ _ => (em_ix ix_seq opm_ix (em_var (pv 1)) (em_call (ok_law_draw T) n_law_draw (hr.mono (by decide)) (by rfl) T.g_law_draw T.F_law_draw.kp (bi_law_draw T) .nil (fun _ => .nil) (am_cons (em_var (pv 0)) (am_cons (em_blt call_len cm_len (by rfl) T.b_len PySem.boot_len (am_cons (em_var (pv 1)) am_nil)) am_nil))) (fun _ _ => rfl)))))))))))))))
theorem ok_law_order (T : Txt K mg) : FnOk PP w K mg base CX0 4 T.a_law_order T.d_law_order ["state", "n", "kinds"] (spM K mg 3 f_law_order) := (fn_mir (k := 3) (m := m_law_order) T.F_law_order sc_law_order fun cdv A outer s H E hr =>
    (ss_cons (s_set (i := 3) sc_law_order.nd rfl (Or.inl rfl) (em_ref (lm_lst am_nil)))
    (ss_cons (s_pre (vs := [4]) (s_for PassesOwn.never rfl (im_rng1 (by rfl) T.b_range (am_cons (em_var (pv 1)) am_nil)) (pg_name (i := 4) sc_law_order.nd rfl (by first | exact Or.inl rfl | exact Or.inr rfl)) (tg_one 4) (ss_wip (vs := [4]) (ss_one (s_expr (em_mth mm_ins (pe_bm PySem.F.plainAttrs_list PySem.F.slot_list_insert PySem.F.type_list_insert mt_ins (em_var (pv 3)) (am_cons (em_call (ok_law_draw T) n_law_draw (hr.mono (by decide)) (by rfl) T.g_law_draw T.F_law_draw.kp (bi_law_draw T) .nil (fun _ => .nil) (am_cons (em_var (pv 0)) (am_cons (em_op op_addA opm_add (em_var (pv 4)) em_int) am_nil))) (am_cons (em_var (pv 4)) am_nil)))))))))
    (ss_cons (s_set (i := 5) sc_law_order.nd rfl (Or.inl rfl) (em_ix ix_seq opm_ix (em_var (pv 2)) (em_call (ok_law_draw T) n_law_draw (hr.mono (by decide)) (by rfl) T.g_law_draw T.F_law_draw.kp (bi_law_draw T) .nil (fun _ => .nil) (am_cons (em_var (pv 0)) (am_cons (em_blt call_len cm_len (by rfl) T.b_len PySem.boot_len (am_cons (em_var (pv 2)) am_nil)) am_nil))) (fun _ _ => rfl)))
    (ss_cons (s_set (i := 6) sc_law_order.nd rfl (Or.inr rfl) (em_ref (lm_lc (tc_one (by decide)) (pe_lc (own := [("x", 7)]) rfl sc_law_order.nd (im_rng1 (by rfl) T.b_range (am_cons (em_var (pv 1)) am_nil)) (blkOk_by (by kernel_rfl)) (fun _ _ _ _ _ => (pg_name (i := 7) sc_law_order.nd rfl (by first | exact Or.inl rfl | exact Or.inr rfl))) (fun _ _ _ _ _ => pts_y) (fun _ _ _ _ _ => (em_ref (lm_rep (em_fls (lm_lst (am_cons em_bl am_nil))) (em_var (pv 1)))))))))
    (ss_cons (s_pre (vs := [4, 7, 8, 9, 10]) (s_for PassesOwn.never rfl (im_rng1 (by rfl) T.b_range (am_cons (em_var (pv 1)) am_nil)) (pg_name (i := 4) sc_law_order.nd rfl (by first | exact Or.inl rfl | exact Or.inr rfl)) (tg_one 4) (ss_wip (vs := [4, 7, 8, 9, 10]) (ss_cons (s_set (i := 8) sc_law_order.nd rfl (Or.inl rfl) (em_ix ix_seq opm_ix (em_var (pv 3)) (em_var (pv 4)) (fun _ _ => rfl)))
    (ss_one (s_pre (vs := [7, 9, 10]) (s_for PassesOwn.never rfl (im_seq (em_call (ok_law_lows T) n_law_lows (hr.mono (by decide)) (by rfl) T.g_law_lows T.F_law_lows.kp (bi_law_lows T) .nil (fun _ => .nil) (am_cons (em_var (pv 0)) (am_cons (em_sli (em_var (pv 3)) om_none (om_some (em_var (pv 4)))) (am_cons (em_var (pv 5)) am_nil))))) (pg_name (i := 9) sc_law_order.nd rfl (by first | exact Or.inl rfl | exact Or.inr rfl)) (tg_one 9) (ss_wip (vs := [7, 9, 10]) (ss_one (s_pre (vs := [7, 10]) (s_for PassesOwn.never rfl (im_rng1 (by rfl) T.b_range (am_cons (em_var (pv 1)) am_nil)) (pg_name (i := 7) sc_law_order.nd rfl (by first | exact Or.inl rfl | exact Or.inr rfl)) (tg_one 7) (ss_wip (vs := [7, 10]) (ss_one (s_if (bm_w (wm_or (bm_cmp (op_eqA hr.units) opm_eq (em_var (pv 7)) (em_var (pv 9)) (nomark _)) (wm_or1 (bm_truth (em_ix ix_seq opm_ix (em_ix ix_seq opm_ix (em_var (pv 6)) (em_var (pv 7)) (fun _ _ => rfl)) (em_var (pv 9)) (fun _ _ => rfl)) fun _ => rfl)))) (ss_cons (s_set (i := 10) sc_law_order.nd rfl (Or.inl rfl) (em_ix ix_seq opm_ix (em_var (pv 6)) (em_var (pv 7)) (fun _ _ => rfl)))
    (ss_one (s_sub em_bl (em_var (pv 10)) (em_var (pv 8))))) ss_nil))))))))))))))
    (ss_cons (s_set (i := 11) sc_law_order.nd rfl (Or.inl rfl) (em_fls (lm_lst am_nil)))
    (ss_cons (s_pre (vs := [7]) (s_for PassesOwn.never rfl (im_rng1 (by rfl) T.b_range (am_cons (em_var (pv 1)) am_nil)) (pg_name (i := 7) sc_law_order.nd rfl (by first | exact Or.inl rfl | exact Or.inr rfl)) (tg_one 7) (ss_wip (vs := [7]) (ss_one (s_set (i := 11) sc_law_order.nd rfl (Or.inl rfl) (em_fls (lm_cat (em_var (pv 11)) (em_fls (lm_lc (tc_one (by decide)) (pe_lc (own := [("y", 8)]) rfl sc_law_order.nd (im_rng1 (by rfl) T.b_range (am_cons (em_var (pv 1)) am_nil)) (blkOk_by (by kernel_rfl)) (fun _ _ _ _ _ => (pg_name (i := 8) sc_law_order.nd rfl (by first | exact Or.inl rfl | exact Or.inr rfl))) (fun _ _ _ _ _ => (pts_M (bm_truth (em_ix ix_seq opm_ix (em_ix ix_seq opm_ix (em_var (pv 6)) (em_var (pv 7)) (fun _ _ => rfl)) (em_var (pv 8)) (fun _ _ => rfl)) fun _ => rfl))) (fun _ _ _ _ _ => (em_tup (am_cons (em_var (pv 7)) (am_cons (em_var (pv 8)) am_nil))))))))))))))
    (ss_cons (s_lcF (tc_one (by decide)) (ps_setLc (i := 12) (own := [("x", 7)]) rfl sc_law_order.nd rfl rfl (sw_true rfl rfl rfl (by decide +kernel)) (im_rng1 (by rfl) T.b_range (am_cons (em_var (pv 1)) am_nil)) (blkOk_by (by kernel_rfl)) (fun _ _ _ _ _ => (pg_name (i := 7) sc_law_order.nd rfl (by first | exact Or.inl rfl | exact Or.inr rfl))) (fun _ _ _ _ _ => pts_y) (fun _ _ _ _ _ => (em_fls (lm_lc (tc_one (by decide)) (pe_lc (own := [("y", 8)]) rfl sc_law_order.nd (im_rng1 (by rfl) T.b_range (am_cons (em_var (pv 1)) am_nil)) (blkOk_by (by kernel_rfl)) (fun _ _ _ _ _ => (pg_name (i := 8) sc_law_order.nd rfl (by first | exact Or.inl rfl | exact Or.inr rfl))) (fun _ _ _ _ _ => (pts_M (bm_w (wm_or (bm_truth (em_ix ix_seq opm_ix (em_ix ix_seq opm_ix (em_var (pv 6)) (em_var (pv 7)) (fun _ _ => rfl)) (em_var (pv 8)) (fun _ _ => rfl)) fun _ => rfl) (wm_or1 (bm_truth (em_ix ix_seq opm_ix (em_ix ix_seq opm_ix (em_var (pv 6)) (em_var (pv 8)) (fun _ _ => rfl)) (em_var (pv 7)) (fun _ _ => rfl)) fun _ => rfl)))))) (fun _ _ _ _ _ => (em_var (pv 8)))))))))
    (ss_one (s_ret (em_tup (am_cons (em_tup (am_cons (em_var (pv 1)) (am_cons (em_bty call_tuple_of cm_tup (by rfl) T.b_tuple PyProof.Rows.boot_tuple (am_cons (em_var (pv 11)) am_nil)) am_nil))) (am_cons (em_frz (em_var (pv 6))) (am_cons (em_frz (em_var (pv 3))) (am_cons (em_var (pv 12)) am_nil)))))))))))))))).imp cut_sp
theorem ok_law_orders (T : Txt K mg) : FnOk PP w K mg base CX0 5 T.a_law_orders T.d_law_orders ["state"] (spM K mg 1 f_law_orders) := fn_mir T.F_law_orders sc_law_orders fun cdv A outer s H E hr =>
    (ss_cons (s_set (i := 1) sc_law_orders.nd rfl (Or.inl rfl) (em_call (ok_law_draw T) n_law_draw (hr.mono (by decide)) (by rfl) T.g_law_draw T.F_law_draw.kp (bi_law_draw T) .nil (fun _ => .nil) (am_cons (em_var (pv 0)) (am_cons em_int am_nil))))
    (ss_cons (s_set (i := 2) sc_law_orders.nd rfl (Or.inl rfl) (em_op op_addA opm_add em_int (em_call (ok_law_draw T) n_law_draw (hr.mono (by decide)) (by rfl) T.g_law_draw T.F_law_draw.kp (bi_law_draw T) .nil (fun _ => .nil) (am_cons (em_var (pv 0)) (am_cons em_int am_nil)))))
    (ss_cons (s_set (i := 3) sc_law_orders.nd rfl (Or.inl rfl) (em_op op_addA opm_add em_int (em_call (ok_law_draw T) n_law_draw (hr.mono (by decide)) (by rfl) T.g_law_draw T.F_law_draw.kp (bi_law_draw T) .nil (fun _ => .nil) (am_cons (em_var (pv 0)) (am_cons em_int am_nil)))))
    (ss_cons (s_if (bm_cmp (op_eqA hr.units) opm_eq (em_var (pv 1)) em_int (nomark _)) (ss_one (s_asg (em_fls (lm_lst (am_cons (em_op op_addA opm_add em_int (em_call (ok_law_draw T) n_law_draw (hr.mono (by decide)) (by rfl) T.g_law_draw T.F_law_draw.kp (bi_law_draw T) .nil (fun _ => .nil) (am_cons (em_var (pv 0)) (am_cons em_int am_nil)))) (am_cons (em_op op_addA opm_add em_int (em_call (ok_law_draw T) n_law_draw (hr.mono (by decide)) (by rfl) T.g_law_draw T.F_law_draw.kp (bi_law_draw T) .nil (fun _ => .nil) (am_cons (em_var (pv 0)) (am_cons em_int am_nil)))) am_nil)))) (pg_lst rfl (pgs_cons (pg_name (i := 2) sc_law_orders.nd rfl (by first | exact Or.inl rfl | exact Or.inr rfl)) (pgs_cons (pg_name (i := 3) sc_law_orders.nd rfl (by first | exact Or.inl rfl | exact Or.inr rfl)) pgs_nil))) (tg_lst [2, 3]))) ss_nil)
    (ss_cons (s_if (bm_cmp (op_eqA hr.units) opm_eq (em_var (pv 1)) em_int (nomark _)) (ss_one (s_asg (em_fls (lm_lst (am_cons (em_op op_addA opm_add em_int (em_call (ok_law_draw T) n_law_draw (hr.mono (by decide)) (by rfl) T.g_law_draw T.F_law_draw.kp (bi_law_draw T) .nil (fun _ => .nil) (am_cons (em_var (pv 0)) (am_cons em_int am_nil)))) (am_cons (em_op op_addA opm_add em_int (em_call (ok_law_draw T) n_law_draw (hr.mono (by decide)) (by rfl) T.g_law_draw T.F_law_draw.kp (bi_law_draw T) .nil (fun _ => .nil) (am_cons (em_var (pv 0)) (am_cons em_int am_nil)))) am_nil)))) (pg_lst rfl (pgs_cons (pg_name (i := 2) sc_law_orders.nd rfl (by first | exact Or.inl rfl | exact Or.inr rfl)) (pgs_cons (pg_name (i := 3) sc_law_orders.nd rfl (by first | exact Or.inl rfl | exact Or.inr rfl)) pgs_nil))) (tg_lst [2, 3]))) ss_nil)
    (ss_cons (s_if (bm_cmp (op_eqA hr.units) opm_eq (em_var (pv 1)) em_int (nomark _)) (ss_one (s_asg (em_fls (lm_lst (am_cons em_int (am_cons (em_call (ok_law_draw T) n_law_draw (hr.mono (by decide)) (by rfl) T.g_law_draw T.F_law_draw.kp (bi_law_draw T) .nil (fun _ => .nil) (am_cons (em_var (pv 0)) (am_cons em_int am_nil))) am_nil)))) (pg_lst rfl (pgs_cons (pg_name (i := 2) sc_law_orders.nd rfl (by first | exact Or.inl rfl | exact Or.inr rfl)) (pgs_cons (pg_name (i := 3) sc_law_orders.nd rfl (by first | exact Or.inl rfl | exact Or.inr rfl)) pgs_nil))) (tg_lst [2, 3]))) ss_nil)
    (ss_one (s_ret (em_tup (am_cons (em_call (ok_law_order T) n_law_order (hr.mono (by decide)) (by rfl) T.g_law_order T.F_law_order.kp (bi_law_order T) .nil (fun _ => .nil) (am_cons (em_var (pv 0)) (am_cons (em_var (pv 2)) (am_cons (em_tup (am_cons em_int (am_cons em_int (am_cons em_int (am_cons em_int (am_cons em_int (am_cons em_int am_nil))))))) am_nil)))) (am_cons (em_call (ok_law_order T) n_law_order (hr.mono (by decide)) (by rfl) T.g_law_order T.F_law_order.kp (bi_law_order T) .nil (fun _ => .nil) (am_cons (em_var (pv 0)) (am_cons (em_var (pv 3)) (am_cons (em_tup (am_cons em_int (am_cons em_int (am_cons em_int (am_cons em_int (am_cons em_int (am_cons em_int am_nil))))))) am_nil)))) am_nil)))))))))))
theorem ok_lowest_in (T : Txt K mg) : FnOk PP w K mg base CX0 1 T.a_lowest_in T.d_lowest_in ["mask"] (spM K mg 1 f_lowest_in) := fn_mir T.F_lowest_in sc_lowest_in fun cdv A outer s H E hr =>
    (ss_cons (s_set (i := 1) sc_lowest_in.nd rfl (Or.inl rfl) (em_op op_and opm_and (em_var (pv 0)) (em_un un_neg unm_neg (em_var (pv 0)))))
    (ss_one (s_ret (em_op op_sub opm_sub (em_bits (em_var (pv 1))) em_int))))
theorem ok_high_masks (T : Txt K mg) : FnOk PP w K mg base CX0 1 T.a_high_masks T.d_high_masks ["order"] (spM K mg 1 f_high_masks) := (fn_mir (k := 0) (m := m_high_masks) T.F_high_masks sc_high_masks fun cdv A outer s H E hr =>
    (ss_cons (s_asg (em_var (pv 0)) (pg_tup rfl (pgs_cons (pg_name (i := 1) sc_high_masks.nd rfl (by first | exact Or.inl rfl | exact Or.inr rfl)) (pgs_cons (pg_name (i := 2) sc_high_masks.nd rfl (by first | exact Or.inl rfl | exact Or.inr rfl)) pgs_nil))) (tg_tup [1, 2]))
    (ss_cons (s_set (i := 3) sc_high_masks.nd rfl (Or.inl rfl) (em_ref (lm_rep (em_fls (lm_lst (am_cons em_int am_nil))) (em_var (pv 1)))))
    (ss_cons (s_pre (vs := [4, 5]) (s_for PassesOwn.never rfl (im_seq (em_var (pv 2))) (pg_tup rfl (pgs_cons (pg_name (i := 4) sc_high_masks.nd rfl (by first | exact Or.inl rfl | exact Or.inr rfl)) (pgs_cons (pg_name (i := 5) sc_high_masks.nd rfl (by first | exact Or.inl rfl | exact Or.inr rfl)) pgs_nil))) (tg_tup [4, 5]) (ss_wip (vs := [4, 5]) (ss_one (s_sub (em_op op_or opm_or (em_ix ix_seq opm_ix (em_var (pv 3)) (em_var (pv 4)) (fun _ _ => rfl)) (em_op op_shl opm_shl em_int (em_var (pv 5)))) (em_var (pv 3)) (em_var (pv 4)))))))
    (ss_one (s_ret (em_bty call_tuple_of cm_tup (by rfl) T.b_tuple PyProof.Rows.boot_tuple (am_cons (em_var (pv 3)) am_nil)))))))).imp cut_sp
theorem ok_low_masks (T : Txt K mg) : FnOk PP w K mg base CX0 1 T.a_low_masks T.d_low_masks ["order"] (spM K mg 1 f_low_masks) := (fn_mir (k := 0) (m := m_low_masks) T.F_low_masks sc_low_masks fun cdv A outer s H E hr =>
    (ss_cons (s_asg (em_var (pv 0)) (pg_tup rfl (pgs_cons (pg_name (i := 1) sc_low_masks.nd rfl (by first | exact Or.inl rfl | exact Or.inr rfl)) (pgs_cons (pg_name (i := 2) sc_low_masks.nd rfl (by first | exact Or.inl rfl | exact Or.inr rfl)) pgs_nil))) (tg_tup [1, 2]))
    (ss_cons (s_set (i := 3) sc_low_masks.nd rfl (Or.inl rfl) (em_ref (lm_rep (em_fls (lm_lst (am_cons em_int am_nil))) (em_var (pv 1)))))
    (ss_cons (s_pre (vs := [4, 5]) (s_for PassesOwn.never rfl (im_seq (em_var (pv 2))) (pg_tup rfl (pgs_cons (pg_name (i := 4) sc_low_masks.nd rfl (by first | exact Or.inl rfl | exact Or.inr rfl)) (pgs_cons (pg_name (i := 5) sc_low_masks.nd rfl (by first | exact Or.inl rfl | exact Or.inr rfl)) pgs_nil))) (tg_tup [4, 5]) (ss_wip (vs := [4, 5]) (ss_one (s_sub (em_op op_or opm_or (em_ix ix_seq opm_ix (em_var (pv 3)) (em_var (pv 5)) (fun _ _ => rfl)) (em_op op_shl opm_shl em_int (em_var (pv 4)))) (em_var (pv 3)) (em_var (pv 5)))))))
    (ss_one (s_ret (em_bty call_tuple_of cm_tup (by rfl) T.b_tuple PyProof.Rows.boot_tuple (am_cons (em_var (pv 3)) am_nil)))))))).imp cut_sp
theorem ok_at_most_masks (T : Txt K mg) : FnOk PP w K mg base CX0 2 T.a_at_most_masks T.d_at_most_masks ["order"] (spM K mg 1 f_at_most_masks) := fn_mir T.F_at_most_masks sc_at_most_masks fun cdv A outer s H E hr =>
    (ss_one (s_ret (em_bty call_tuple_of cm_tup (by rfl) T.b_tuple PyProof.Rows.boot_tuple (am_cons (em_fls (lm_lc (tc_tup [1, 2] (by decide)) (pe_lc (own := [("x", 1), ("mask", 2)]) rfl sc_at_most_masks.nd (im_enm (by rfl) T.b_enumerate (am_cons (em_call (ok_low_masks T) n_low_masks (hr.mono (by decide)) (by rfl) T.g_low_masks T.F_low_masks.kp (bi_low_masks T) .nil (fun _ => .nil) (am_cons (em_var (pv 0)) am_nil)) am_nil)) (blkOk_by (by kernel_rfl)) (fun _ _ _ _ _ => (pg_tup rfl (pgs_cons (pg_name (i := 1) sc_at_most_masks.nd rfl (by first | exact Or.inl rfl | exact Or.inr rfl)) (pgs_cons (pg_name (i := 2) sc_at_most_masks.nd rfl (by first | exact Or.inl rfl | exact Or.inr rfl)) pgs_nil)))) (fun _ _ _ _ _ => pts_y) (fun _ _ _ _ _ => (em_op op_or opm_or (em_var (pv 2)) (em_op op_shl opm_shl em_int (em_var (pv 1)))))))) am_nil))))
theorem ok_covers (T : Txt K mg) : FnOk PP w K mg base CX0 2 T.a_covers T.d_covers ["order"] (spM K mg 1 f_covers) := fn_mir T.F_covers sc_covers fun cdv A outer s H E hr =>
    (ss_cons (s_set (i := 1) sc_covers.nd rfl (Or.inr rfl) (em_call (ok_high_masks T) n_high_masks (hr.mono (by decide)) (by rfl) T.g_high_masks T.F_high_masks.kp (bi_high_masks T) .nil (fun _ => .nil) (am_cons (em_var (pv 0)) am_nil)))
    (ss_cons (s_set (i := 2) sc_covers.nd rfl (Or.inr rfl) (em_call (ok_low_masks T) n_low_masks (hr.mono (by decide)) (by rfl) T.g_low_masks T.F_low_masks.kp (bi_low_masks T) .nil (fun _ => .nil) (am_cons (em_var (pv 0)) am_nil)))
    (ss_one (s_ret (em_bty call_tuple_of cm_tup (by rfl) T.b_tuple PyProof.Rows.boot_tuple (am_cons (em_fls (lm_lc (tc_tup [3, 4] (by decide)) (pe_lc (own := [("x", 3), ("y", 4)]) rfl sc_covers.nd (im_seq (em_ix ix_seq opm_ix (em_var (pv 0)) em_int (fun _ _ => rfl))) (blkOk_by (by kernel_rfl)) (fun _ _ _ _ _ => (pg_tup rfl (pgs_cons (pg_name (i := 3) sc_covers.nd rfl (by first | exact Or.inl rfl | exact Or.inr rfl)) (pgs_cons (pg_name (i := 4) sc_covers.nd rfl (by first | exact Or.inl rfl | exact Or.inr rfl)) pgs_nil)))) (fun _ _ _ _ _ => (pts_M (bm_cmp (op_eqA hr.units) opm_eq (em_op op_and opm_and (em_ix ix_seq opm_ix (em_var (pv 1)) (em_var (pv 3)) (fun _ _ => rfl)) (em_ix ix_seq opm_ix (em_var (pv 2)) (em_var (pv 4)) (fun _ _ => rfl))) em_int (nomark _)))) (fun _ _ _ _ _ => (em_tup (am_cons (em_var (pv 3)) (am_cons (em_var (pv 4)) am_nil))))))) am_nil))))))
theorem ok_is_below (T : Txt K mg) : FnOk PP w K mg base CX0 1 T.a_is_below T.d_is_below ["order", "x", "y"] (spM K mg 3 f_is_below) := fn_mir T.F_is_below sc_is_below fun cdv A outer s H E hr =>
    (ss_cons (s_set (i := 3) sc_is_below.nd rfl (Or.inl rfl) (em_ix ix_seq opm_ix (em_var (pv 0)) em_int (fun _ _ => rfl)))
    (ss_cons (s_set (i := 4) sc_is_below.nd rfl (Or.inl rfl) em_int)
    (ss_cons (s_set (i := 5) sc_is_below.nd rfl (Or.inl rfl) (em_blt call_len cm_len (by rfl) T.b_len PySem.boot_len (am_cons (em_var (pv 3)) am_nil)))
    (ss_cons (s_pre (vs := [6]) (s_while 5000 PassesOwn.never (bm_cmp op_lt opm_lt (em_var (pv 4)) (em_var (pv 5)) (nomark _)) (ss_wip (vs := [6]) (ss_cons (s_set (i := 6) sc_is_below.nd rfl (Or.inl rfl) (em_op op_fdiv opm_div (em_op op_addA opm_add (em_var (pv 4)) (em_var (pv 5))) em_int))
    (ss_one (s_if (bm_cmp (op_ltA hr.units) opm_ltA (em_ix ix_seq opm_ix (em_var (pv 3)) (em_var (pv 6)) (fun _ _ => rfl)) (em_tup (am_cons (em_var (pv 1)) (am_cons (em_var (pv 2)) am_nil))) (nomark _)) (ss_one (s_set (i := 4) sc_is_below.nd rfl (Or.inl rfl) (em_op op_addA opm_add (em_var (pv 6)) em_int))) (ss_one (s_set (i := 5) sc_is_below.nd rfl (Or.inl rfl) (em_var (pv 6))))))))))
    (ss_one (s_ret (em_and (em_cmp op_lt opm_lt (em_var (pv 4)) (em_blt call_len cm_len (by rfl) T.b_len PySem.boot_len (am_cons (em_var (pv 3)) am_nil)) (nomark _)) (em_one (em_cmp (op_eqA hr.units) opm_eq (em_ix ix_seq opm_ix (em_var (pv 3)) (em_var (pv 4)) (fun _ _ => rfl)) (em_tup (am_cons (em_var (pv 1)) (am_cons (em_var (pv 2)) am_nil))) (nomark _))))))))))
theorem ok_at_most (T : Txt K mg) : FnOk PP w K mg base CX0 2 T.a_at_most T.d_at_most ["second", "low", "high"] (spM K mg 3 f_at_most) := fn_mir T.F_at_most sc_at_most fun cdv A outer s H E hr =>
    (ss_cons (s_pre (vs := [3, 4]) (s_for PassesOwn.never rfl (im_enm (by rfl) T.b_enumerate (am_cons (em_var (pv 1)) am_nil)) (pg_tup rfl (pgs_cons (pg_name (i := 3) sc_at_most.nd rfl (by first | exact Or.inl rfl | exact Or.inr rfl)) (pgs_cons (pg_name (i := 4) sc_at_most.nd rfl (by first | exact Or.inl rfl | exact Or.inr rfl)) pgs_nil))) (tg_tup [3, 4]) (ss_wip (vs := [3, 4]) (ss_one (s_if (bm_w (wm_and (bm_cmp (op_neA hr.units) opm_ne (em_var (pv 4)) (em_ix ix_seq opm_ix (em_var (pv 2)) (em_var (pv 3)) (fun _ _ => rfl)) (nomark _)) (wm_and1 (bm_not (bm_truth (em_call (ok_is_below T) n_is_below (hr.mono (by decide)) (by rfl) T.g_is_below T.F_is_below.kp (bi_is_below T) .nil (fun _ => .nil) (am_cons (em_var (pv 0)) (am_cons (em_var (pv 4)) (am_cons (em_ix ix_seq opm_ix (em_var (pv 2)) (em_var (pv 3)) (fun _ _ => rfl)) am_nil)))) fun _ => rfl))))) (ss_one (s_ret em_bl)) ss_nil)))))
    (ss_one (s_ret em_bl)))
theorem ok_points_in (T : Txt K mg) : FnOk PP w K mg base CX0 1 T.a_points_in T.d_points_in ["mask"] (spM K mg 1 f_points_in) := (fn_mir (k := 0) (m := m_points_in) T.F_points_in sc_points_in fun cdv A outer s H E hr =>
    (ss_cons (s_set (i := 1) sc_points_in.nd rfl (Or.inl rfl) (em_ref (lm_lst am_nil)))
    (ss_cons (s_pre (vs := [2]) (s_while 70 PassesOwn.never (bm_truth (em_var (pv 0)) fun _ => rfl) (ss_wip (vs := [2]) (ss_cons (s_set (i := 2) sc_points_in.nd rfl (Or.inl rfl) (em_op op_and opm_and (em_var (pv 0)) (em_un un_neg unm_neg (em_var (pv 0)))))
    (ss_cons (s_expr (em_mth mm_app (pe_bm PySem.F.plainAttrs_list PySem.F.slot_list_append PySem.F.type_list_append mt_append (em_var (pv 1)) (am_cons (em_op op_sub opm_sub (em_bits (em_var (pv 2))) em_int) am_nil))))
    (ss_one (s_set (i := 0) sc_points_in.nd rfl (Or.inl rfl) (em_op op_sub opm_sub (em_var (pv 0)) (em_var (pv 2))))))))))
    (ss_one (s_ret (em_bty call_tuple_of cm_tup (by rfl) T.b_tuple PyProof.Rows.boot_tuple (am_cons (em_var (pv 1)) am_nil))))))).imp cut_sp
theorem ok_top_of (T : Txt K mg) : FnOk PP w K mg base CX0 2 T.a_top_of T.d_top_of ["left", "highs"] (spM K mg 2 f_top_of) := fn_mir T.F_top_of sc_top_of fun cdv A outer s H E hr =>
    (ss_cons (s_pre (vs := [2]) (s_for PassesOwn.never rfl (im_seq (em_call (ok_points_in T) n_points_in (hr.mono (by decide)) (by rfl) T.g_points_in T.F_points_in.kp (bi_points_in T) .nil (fun _ => .nil) (am_cons (em_var (pv 0)) am_nil))) (pg_name (i := 2) sc_top_of.nd rfl (by first | exact Or.inl rfl | exact Or.inr rfl)) (tg_one 2) (ss_wip (vs := [2]) (ss_one (s_if (bm_cmp (op_eqA hr.units) opm_eq (em_op op_and opm_and (em_ix ix_seq opm_ix (em_var (pv 1)) (em_var (pv 2)) (fun _ _ => rfl)) (em_var (pv 0))) em_int (nomark _)) (ss_one (s_ret (em_var (pv 2)))) ss_nil)))))
    (ss_one (s_ret em_non)))
theorem ok_steps_up (T : Txt K mg) : FnOk PP w K mg base (L2.CX PP w) 3 T.a_steps_up T.d_steps_up ["first", "second", "low", "high"] (spM K mg 4 f_steps_up) := (fn_mirX (k := 2) (m := m_steps_up) T.F_steps_up sc_steps_up fun cdv A outer s H E hr tk =>
    (ss_cons (s_if (bm_not (bm_truth (em_call (ok_at_most T) n_at_most (hr.mono (by decide)) (by rfl) T.g_at_most T.F_at_most.kp (bi_at_most T) .nil (fun _ => .nil) (am_cons (em_var (pv 1)) (am_cons (em_var (pv 2)) (am_cons (em_var (pv 3)) am_nil)))) fun _ => rfl)) (ss_one (s_raise0 rfl tk T.E_NotAbove.g (pmk_own0 PySem.F.excBase_ValueError T.xn_NotAbove T.E_NotAbove.g T.E_NotAbove.kp T.E_NotAbove.raises (by rfl)))) ss_nil)
    (ss_cons (s_set (i := 4) sc_steps_up.nd rfl (Or.inl rfl) (em_call (ok_high_masks T) n_high_masks (hr.mono (by decide)) (by rfl) T.g_high_masks T.F_high_masks.kp (bi_high_masks T) .nil (fun _ => .nil) (am_cons (em_var (pv 0)) am_nil)))
    (ss_cons (s_set (i := 5) sc_steps_up.nd rfl (Or.inl rfl) (em_call (ok_high_masks T) n_high_masks (hr.mono (by decide)) (by rfl) T.g_high_masks T.F_high_masks.kp (bi_high_masks T) .nil (fun _ => .nil) (am_cons (em_tup (am_cons (em_ix ix_seq opm_ix (em_var (pv 1)) em_int (fun _ _ => rfl)) (am_cons (em_call (ok_covers T) n_covers (hr.mono (by decide)) (by rfl) T.g_covers T.F_covers.kp (bi_covers T) .nil (fun _ => .nil) (am_cons (em_var (pv 1)) am_nil)) am_nil))) am_nil)))
    (ss_cons (s_set (i := 6) sc_steps_up.nd rfl (Or.inl rfl) (em_call (ok_at_most_masks T) n_at_most_masks (hr.mono (by decide)) (by rfl) T.g_at_most_masks T.F_at_most_masks.kp (bi_at_most_masks T) .nil (fun _ => .nil) (am_cons (em_var (pv 1)) am_nil)))
    (ss_cons (s_set (i := 7) sc_steps_up.nd rfl (Or.inl rfl) (em_ref (lm_bty call_list_of cl_lst (by rfl) T.b_list PyProof.Rows.boot_list (am_cons (em_var (pv 2)) am_nil))))
    (ss_cons (s_set (i := 8) sc_steps_up.nd rfl (Or.inl rfl) em_int)
    (ss_cons (s_pre (vs := [9, 10]) (s_for (passes_of rfl) rfl (im_enm (by rfl) T.b_enumerate (am_cons (em_var (pv 2)) am_nil)) (pg_tup rfl (pgs_cons (pg_name (i := 9) sc_steps_up.nd rfl (by first | exact Or.inl rfl | exact Or.inr rfl)) (pgs_cons (pg_name (i := 10) sc_steps_up.nd rfl (by first | exact Or.inl rfl | exact Or.inr rfl)) pgs_nil))) (tg_tup [9, 10]) (ss_wip (vs := [9, 10]) (ss_one (s_if (bm_cmp (op_neA hr.units) opm_ne (em_var (pv 10)) (em_ix ix_seq opm_ix (em_var (pv 3)) (em_var (pv 9)) (fun _ _ => rfl)) (nomark _)) (ss_one (s_set (i := 8) sc_steps_up.nd rfl (Or.inl rfl) (em_op op_or opm_or (em_var (pv 8)) (em_op op_shl opm_shl em_int (em_var (pv 9)))))) ss_nil)))))
    (ss_cons (s_set (i := 11) sc_steps_up.nd rfl (Or.inl rfl) (em_ref (lm_lst am_nil)))
    (ss_cons (s_pre (vs := [9]) (s_while 5000 (passes_of rfl) (bm_truth (em_var (pv 8)) fun _ => rfl) (ss_wip (vs := [9]) (ss_cons (s_set (i := 9) sc_steps_up.nd rfl (Or.inl rfl) (em_call (ok_top_of T) n_top_of (hr.mono (by decide)) (by rfl) T.g_top_of T.F_top_of.kp (bi_top_of T) .nil (fun _ => .nil) (am_cons (em_var (pv 8)) (am_cons (em_var (pv 4)) am_nil))))
    (ss_cons (s_sub (em_call (ok_lowest_in T) n_lowest_in (hr.mono (by decide)) (by rfl) T.g_lowest_in T.F_lowest_in.kp (bi_lowest_in T) .nil (fun _ => .nil) (am_cons (em_op op_and opm_and (em_ix ix_seq opm_ix (em_var (pv 5)) (em_ix ix_seq opm_ix (em_var (pv 7)) (em_var (pv 9)) (fun _ _ => rfl)) (fun _ _ => rfl)) (em_ix ix_seq opm_ix (em_var (pv 6)) (em_ix ix_seq opm_ix (em_var (pv 3)) (em_var (pv 9)) (fun _ _ => rfl)) (fun _ _ => rfl))) am_nil)) (em_var (pv 7)) (em_var (pv 9)))
    (ss_cons (s_expr (em_mth mm_app (pe_bm PySem.F.plainAttrs_list PySem.F.slot_list_append PySem.F.type_list_append mt_append (em_var (pv 11)) (am_cons (em_tup (am_cons (em_var (pv 9)) (am_cons (em_ix ix_seq opm_ix (em_var (pv 7)) (em_var (pv 9)) (fun _ _ => rfl)) am_nil))) am_nil))))
    (ss_one (s_if (bm_cmp (op_eqA hr.units) opm_eq (em_ix ix_seq opm_ix (em_var (pv 7)) (em_var (pv 9)) (fun _ _ => rfl)) (em_ix ix_seq opm_ix (em_var (pv 3)) (em_var (pv 9)) (fun _ _ => rfl)) (nomark _)) (ss_one (s_set (i := 8) sc_steps_up.nd rfl (Or.inl rfl) (em_op op_sub opm_sub (em_var (pv 8)) (em_op op_shl opm_shl em_int (em_var (pv 9)))))) ss_nil))))))))
    (ss_one (s_ret (em_bty call_tuple_of cm_tup (by rfl) T.b_tuple PyProof.Rows.boot_tuple (am_cons (em_var (pv 11)) am_nil)))))))))))))).imp cut_sp
theorem ok_steps_down (T : Txt K mg) : FnOk PP w K mg base (L2.CX PP w) 4 T.a_steps_down T.d_steps_down ["first", "second", "high", "low"] (spM K mg 4 f_steps_down) := (fn_mirX (k := 3) (m := m_steps_down) T.F_steps_down sc_steps_down fun cdv A outer s H E hr tk =>
    (ss_cons (s_set (i := 4) sc_steps_down.nd rfl (Or.inl rfl) (em_ref (lm_bty call_list_of cl_lst (by rfl) T.b_list PyProof.Rows.boot_list (am_cons (em_var (pv 3)) am_nil))))
    (ss_cons (s_set (i := 5) sc_steps_down.nd rfl (Or.inl rfl) (em_ref (lm_lst am_nil)))
    (ss_cons (s_pre (vs := [6, 7]) (s_for (passes_of rfl) rfl (im_seq (em_callX tk (ok_steps_up T) n_steps_up (hr.mono (by decide)) (by rfl) T.g_steps_up T.F_steps_up.kp (bi_steps_up T) .nil (fun _ => .nil) (am_cons (em_var (pv 0)) (am_cons (em_var (pv 1)) (am_cons (em_var (pv 3)) (am_cons (em_var (pv 2)) am_nil)))))) (pg_tup rfl (pgs_cons (pg_name (i := 6) sc_steps_down.nd rfl (by first | exact Or.inl rfl | exact Or.inr rfl)) (pgs_cons (pg_name (i := 7) sc_steps_down.nd rfl (by first | exact Or.inl rfl | exact Or.inr rfl)) pgs_nil))) (tg_tup [6, 7]) (ss_wip (vs := [6, 7]) (ss_cons (s_expr (em_mth mm_app (pe_bm PySem.F.plainAttrs_list PySem.F.slot_list_append PySem.F.type_list_append mt_append (em_var (pv 5)) (am_cons (em_tup (am_cons (em_var (pv 6)) (am_cons (em_ix ix_seq opm_ix (em_var (pv 4)) (em_var (pv 6)) (fun _ _ => rfl)) am_nil))) am_nil))))
    (ss_one (s_sub (em_var (pv 7)) (em_var (pv 4)) (em_var (pv 6))))))))
    (ss_one (s_ret (em_bty call_tuple_of cm_tup (by rfl) T.b_tuple PyProof.Rows.boot_tuple (am_cons (em_fls (lm_rvs (em_var (pv 5)))) am_nil)))))))).imp cut_sp
theorem ok_law_asked (T : Txt K mg) : FnOk PP w K mg base (L2.CX PP w) 5 T.a_law_asked T.d_law_asked ["first", "second", "high", "low", "named"] (spM K mg 5 f_law_asked) := (fn_mirX (k := 4) (m := m_law_asked) T.F_law_asked sc_law_asked fun cdv A outer s H E hr tk =>
    (ss_one (s_try_as rfl rfl rfl sc_law_asked.nd rfl rfl ⟨by rfl, by decide, Or.inl T.E_NotAbove.g⟩ tk (fun nm b h C hC => by
    rcases look_cons h with ⟨rfl, rfl⟩ | h
    · obtain rfl := mg_inj hC T.E_NotAbove.g
      exact ErrC.exm T.E_NotAbove T.E_NotAbove T.E_NotAbove.rf
    cases h) (fun E2 pn xe tk2 po => (ss_cons (s_if (bm_truth (em_var (pv 4)) fun _ => rfl) (ss_one (s_ret (em_tup (am_cons em_str (am_cons (em_callKX0 tk2 (ok_steps_down T) n_steps_down (hr.mono (by decide)) (by rfl) T.g_steps_down T.F_steps_down.kp (kb_steps_down_0 T) (fun _ => .nil) (km_cons (em_bty call_tuple_of cm_tup (by rfl) T.b_tuple PyProof.Rows.boot_tuple (am_cons (em_var (pv 3)) am_nil)) (km_cons (em_bty call_tuple_of cm_tup (by rfl) T.b_tuple PyProof.Rows.boot_tuple (am_cons (em_var (pv 2)) am_nil)) (km_cons (em_ix ix_seq opm_ix (em_var (pv 1)) em_int (fun _ _ => rfl)) (km_cons (em_ix ix_seq opm_ix (em_var (pv 0)) em_int (fun _ _ => rfl)) km_nil))))) am_nil))))) ss_nil)
    (ss_one (s_ret (em_tup (am_cons em_str (am_cons (em_callX tk2 (ok_steps_down T) n_steps_down (hr.mono (by decide)) (by rfl) T.g_steps_down T.F_steps_down.kp (bi_steps_down T) .nil (fun _ => .nil) (am_cons (em_ix ix_seq opm_ix (em_var (pv 0)) em_int (fun _ _ => rfl)) (am_cons (em_ix ix_seq opm_ix (em_var (pv 1)) em_int (fun _ _ => rfl)) (am_cons (em_bty call_tuple_of cm_tup (by rfl) T.b_tuple PyProof.Rows.boot_tuple (am_cons (em_var (pv 2)) am_nil)) (am_cons (em_bty call_tuple_of cm_tup (by rfl) T.b_tuple PyProof.Rows.boot_tuple (am_cons (em_var (pv 3)) am_nil)) am_nil))))) am_nil))))))) (fun nm h C hC a oe d pn hz hf => by
    rcases look_cons h with ⟨rfl, h2⟩ | h
    · obtain rfl := mg_inj hC T.E_NotAbove.g
      exact (ss_cons (s_set (i := 5) sc_law_asked.nd rfl (Or.inl rfl) (em_or (em_isX (i := 6) (by rfl) (by first | exact Or.inl rfl | exact Or.inr (Or.inl rfl) | exact Or.inr (Or.inr rfl)) T.E_NotAbove.kit hz hf (by rfl) T.b_isinstance (.own _) (pe_glob (v := .ref T.C_BadMap) (by rfl) T.E_BadMap.g rfl) (is_ho (by decide) (ErrC.one T.E_NotAbove T.E_BadMap T.p_NotAbove_BadMap))) (em_or (em_isX (i := 6) (by rfl) (by first | exact Or.inl rfl | exact Or.inr (Or.inl rfl) | exact Or.inr (Or.inr rfl)) T.E_NotAbove.kit hz hf (by rfl) T.b_isinstance (.own _) (pe_glob (v := .ref T.C_BadStep) (by rfl) T.E_BadStep.g rfl) (is_ho (by decide) (ErrC.one T.E_NotAbove T.E_BadStep T.p_NotAbove_BadStep))) (em_one (em_isX (i := 6) (by rfl) (by first | exact Or.inl rfl | exact Or.inr (Or.inl rfl) | exact Or.inr (Or.inr rfl)) T.E_NotAbove.kit hz hf (by rfl) T.b_isinstance (.own _) (pe_glob (v := .ref T.C_TooLarge) (by rfl) T.E_TooLarge.g rfl) (is_ho (by decide) (ErrC.one T.E_NotAbove T.E_TooLarge T.p_NotAbove_TooLarge)))))))
          (ss_one (s_ret (em_fls (lm_lst (am_cons em_str (am_cons (em_and (em_isX (i := 6) (by rfl) (by first | exact Or.inl rfl | exact Or.inr (Or.inl rfl) | exact Or.inr (Or.inr rfl)) T.E_NotAbove.kit hz hf (by rfl) T.b_isinstance (.own _) (pe_glob (v := .ref T.C_StrikeError) (by rfl) T.E_StrikeError.g rfl) (is_ho (by decide) (ErrC.one T.E_NotAbove T.E_StrikeError T.p_NotAbove_StrikeError))) (em_and (em_isX (i := 6) (by rfl) (by first | exact Or.inl rfl | exact Or.inr (Or.inl rfl) | exact Or.inr (Or.inr rfl)) T.E_NotAbove.kit hz hf (by rfl) T.b_isinstance (.ty _) (pe_bltn (by rfl) T.b_ValueError PyProof.Rows.Boot.«ValueError» rfl) (is_ho (by decide) T.E_NotAbove.oneV)) (em_one (em_not (em_var (pv 5)))))) am_nil)))))))
    cases h)))).imp cut_sp
theorem ok_law_covers (T : Txt K mg) : FnOk PP w K mg base CX0 1 T.a_law_covers T.d_law_covers ["less", "a", "b"] (spM K mg 3 f_law_covers) := fn_mir T.F_law_covers sc_law_covers fun cdv A outer s H E hr =>
    (ss_one (s_ret (em_and (em_ix ix_seq opm_ix (em_ix ix_seq opm_ix (em_var (pv 0)) (em_var (pv 1)) (fun _ _ => rfl)) (em_var (pv 2)) (fun _ _ => rfl)) (em_one (em_cmp (op_eqA hr.units) opm_eq (em_blt call_len cm_len (by rfl) T.b_len PySem.boot_len (am_cons (em_fls (lm_lc (tc_one (by decide)) (pe_lc (own := [("z", 3)]) rfl sc_law_covers.nd (im_rng1 (by rfl) T.b_range (am_cons (em_blt call_len cm_len (by rfl) T.b_len PySem.boot_len (am_cons (em_var (pv 0)) am_nil)) am_nil)) (blkOk_by (by kernel_rfl)) (fun _ _ _ _ _ => (pg_name (i := 3) sc_law_covers.nd rfl (by first | exact Or.inl rfl | exact Or.inr rfl))) (fun _ _ _ _ _ => (pts_M (bm_w (wm_and (bm_truth (em_ix ix_seq opm_ix (em_ix ix_seq opm_ix (em_var (pv 0)) (em_var (pv 1)) (fun _ _ => rfl)) (em_var (pv 3)) (fun _ _ => rfl)) fun _ => rfl) (wm_and1 (bm_truth (em_ix ix_seq opm_ix (em_ix ix_seq opm_ix (em_var (pv 0)) (em_var (pv 3)) (fun _ _ => rfl)) (em_var (pv 2)) (fun _ _ => rfl)) fun _ => rfl)))))) (fun _ _ _ _ _ => (em_var (pv 3)))))) am_nil)) em_int (nomark _))))))
theorem ok_law_next (T : Txt K mg) : FnOk PP w K mg base CX0 2 T.a_law_next T.d_law_next ["less", "value", "top"] (spM K mg 3 f_law_next) := fn_mir T.F_law_next sc_law_next fun cdv A outer s H E hr =>
    (ss_cons (s_pre (vs := [3]) (s_for PassesOwn.never rfl (im_rng1 (by rfl) T.b_range (am_cons (em_blt call_len cm_len (by rfl) T.b_len PySem.boot_len (am_cons (em_var (pv 0)) am_nil)) am_nil)) (pg_name (i := 3) sc_law_next.nd rfl (by first | exact Or.inl rfl | exact Or.inr rfl)) (tg_one 3) (ss_wip (vs := [3]) (ss_one (s_if (bm_w (wm_and (bm_truth (em_call (ok_law_at_most T) n_law_at_most (hr.mono (by decide)) (by rfl) T.g_law_at_most T.F_law_at_most.kp (bi_law_at_most T) .nil (fun _ => .nil) (am_cons (em_var (pv 0)) (am_cons (em_var (pv 3)) (am_cons (em_var (pv 2)) am_nil)))) fun _ => rfl) (wm_and1 (bm_truth (em_call (ok_law_covers T) n_law_covers (hr.mono (by decide)) (by rfl) T.g_law_covers T.F_law_covers.kp (bi_law_covers T) .nil (fun _ => .nil) (am_cons (em_var (pv 0)) (am_cons (em_var (pv 1)) (am_cons (em_var (pv 3)) am_nil)))) fun _ => rfl)))) (ss_one (s_ret (em_var (pv 3)))) ss_nil)))))
    (ss_one (s_ret (em_var (pv 2)))))
theorem ok_law_up (T : Txt K mg) : FnOk PP w K mg base CX0 3 T.a_law_up T.d_law_up ["first", "second", "low", "high"] (spM K mg 4 f_law_up) := (fn_mir (k := 2) (m := m_law_up) T.F_law_up sc_law_up fun cdv A outer s H E hr =>
    (ss_cons (s_set (i := 4) sc_law_up.nd rfl (Or.inl rfl) (em_ref (lm_lst am_nil)))
    (ss_cons (s_set (i := 5) sc_law_up.nd rfl (Or.inr rfl) (em_ref (lm_lc (tc_one (by decide)) (pe_lc (own := [("x", 6)]) rfl sc_law_up.nd (im_rng1 (by rfl) T.b_range (am_cons (em_blt call_len cm_len (by rfl) T.b_len PySem.boot_len (am_cons (em_var (pv 2)) am_nil)) am_nil)) (blkOk_by (by kernel_rfl)) (fun _ _ _ _ _ => (pg_name (i := 6) sc_law_up.nd rfl (by first | exact Or.inl rfl | exact Or.inr rfl))) (fun _ _ _ _ _ => (pts_M (bm_cmp (op_neA hr.units) opm_ne (em_ix ix_seq opm_ix (em_var (pv 2)) (em_var (pv 6)) (fun _ _ => rfl)) (em_ix ix_seq opm_ix (em_var (pv 3)) (em_var (pv 6)) (fun _ _ => rfl)) (nomark _)))) (fun _ _ _ _ _ => (em_var (pv 6)))))))
    (ss_cons (s_pre (vs := [6, 7, 8, 11, 12]) (s_for PassesOwn.never rfl (im_rng1 (by rfl) T.b_range (am_cons (em_blt call_len cm_len (by rfl) T.b_len PySem.boot_len (am_cons (em_var (pv 5)) am_nil)) am_nil)) (pg_name (i := 7) sc_law_up.nd rfl (by first | exact Or.inl rfl | exact Or.inr rfl)) (tg_one 7) (ss_wip (vs := [6, 7, 8, 11, 12]) (ss_cons (s_lcF (tc_one (by decide)) (ps_setLc (i := 8) (own := [("a", 9)]) rfl sc_law_up.nd rfl rfl (sw_true rfl rfl rfl (by decide +kernel)) (im_seq (em_var (pv 5))) (blkOk_by (by kernel_rfl)) (fun _ _ _ _ _ => (pg_name (i := 9) sc_law_up.nd rfl (by first | exact Or.inl rfl | exact Or.inr rfl))) (fun _ _ _ _ _ => (pts_M (bm_cmp (op_eqA hr.units) opm_eq (em_blt call_len cm_len (by rfl) T.b_len PySem.boot_len (am_cons (em_fls (lm_lc (tc_one (by decide)) (pe_lc (own := [("b", 10)]) rfl sc_law_up.nd (im_seq (em_var (pv 5))) (blkOk_by (by kernel_rfl)) (fun _ _ _ _ _ => (pg_name (i := 10) sc_law_up.nd rfl (by first | exact Or.inl rfl | exact Or.inr rfl))) (fun _ _ _ _ _ => (pts_M (bm_truth (em_ix ix_seq opm_ix (em_ix ix_seq opm_ix (em_ix ix_seq opm_ix (em_var (pv 0)) em_int (fun _ _ => rfl)) (em_var (pv 9)) (fun _ _ => rfl)) (em_var (pv 10)) (fun _ _ => rfl)) fun _ => rfl))) (fun _ _ _ _ _ => (em_var (pv 10)))))) am_nil)) em_int (nomark _)))) (fun _ _ _ _ _ => (em_var (pv 9)))))
    (ss_cons (s_set (i := 6) sc_law_up.nd rfl (Or.inl rfl) (em_ix ix_seq opm_ix (em_var (pv 8)) em_int (fun _ _ => rfl)))
    (ss_cons (s_set (i := 11) sc_law_up.nd rfl (Or.inl rfl) (em_ix ix_seq opm_ix (em_var (pv 2)) (em_var (pv 6)) (fun _ _ => rfl)))
    (ss_cons (s_pre (vs := [12]) (s_for PassesOwn.never rfl (im_rng1 (by rfl) T.b_range (am_cons (em_blt call_len cm_len (by rfl) T.b_len PySem.boot_len (am_cons (em_ix ix_seq opm_ix (em_var (pv 1)) em_int (fun _ _ => rfl)) am_nil)) am_nil)) (pg_name (i := 12) sc_law_up.nd rfl (by first | exact Or.inl rfl | exact Or.inr rfl)) (tg_one 12) (ss_wip (vs := [12]) (ss_one (s_if (bm_cmp (op_neA hr.units) opm_ne (em_var (pv 11)) (em_ix ix_seq opm_ix (em_var (pv 3)) (em_var (pv 6)) (fun _ _ => rfl)) (nomark _)) (ss_cons (s_set (i := 11) sc_law_up.nd rfl (Or.inl rfl) (em_call (ok_law_next T) n_law_next (hr.mono (by decide)) (by rfl) T.g_law_next T.F_law_next.kp (bi_law_next T) .nil (fun _ => .nil) (am_cons (em_ix ix_seq opm_ix (em_var (pv 1)) em_int (fun _ _ => rfl)) (am_cons (em_var (pv 11)) (am_cons (em_ix ix_seq opm_ix (em_var (pv 3)) (em_var (pv 6)) (fun _ _ => rfl)) am_nil)))))
    (ss_one (s_expr (em_mth mm_app (pe_bm PySem.F.plainAttrs_list PySem.F.slot_list_append PySem.F.type_list_append mt_append (em_var (pv 4)) (am_cons (em_tup (am_cons (em_var (pv 6)) (am_cons (em_var (pv 11)) am_nil))) am_nil)))))) ss_nil)))))
    (ss_one (s_expr (em_mth mm_rem (pe_bm PySem.F.plainAttrs_list PySem.F.slot_list_remove PySem.F.type_list_remove mt_rem (em_var (pv 5)) (am_cons (em_var (pv 6)) am_nil))))))))))))
    (ss_one (s_ret (em_frz (em_var (pv 4))))))))).imp cut_sp
theorem ok_law_down (T : Txt K mg) : FnOk PP w K mg base CX0 4 T.a_law_down T.d_law_down ["first", "second", "high", "low"] (spM K mg 4 f_law_down) := (fn_mir (k := 3) (m := m_law_down) T.F_law_down sc_law_down fun cdv A outer s H E hr =>
    (ss_cons (s_set (i := 4) sc_law_down.nd rfl (Or.inl rfl) (em_ref (lm_bty call_list_of cl_lst (by rfl) T.b_list PyProof.Rows.boot_list (am_cons (em_var (pv 3)) am_nil))))
    (ss_cons (s_set (i := 5) sc_law_down.nd rfl (Or.inl rfl) (em_ref (lm_lst am_nil)))
    (ss_cons (s_pre (vs := [6, 7]) (s_for PassesOwn.never rfl (im_seq (em_call (ok_law_up T) n_law_up (hr.mono (by decide)) (by rfl) T.g_law_up T.F_law_up.kp (bi_law_up T) .nil (fun _ => .nil) (am_cons (em_var (pv 0)) (am_cons (em_var (pv 1)) (am_cons (em_var (pv 3)) (am_cons (em_var (pv 2)) am_nil)))))) (pg_tup rfl (pgs_cons (pg_name (i := 6) sc_law_down.nd rfl (by first | exact Or.inl rfl | exact Or.inr rfl)) (pgs_cons (pg_name (i := 7) sc_law_down.nd rfl (by first | exact Or.inl rfl | exact Or.inr rfl)) pgs_nil))) (tg_tup [6, 7]) (ss_wip (vs := [6, 7]) (ss_cons (s_expr (em_mth mm_ins (pe_bm PySem.F.plainAttrs_list PySem.F.slot_list_insert PySem.F.type_list_insert mt_ins (em_var (pv 5)) (am_cons em_int (am_cons (em_tup (am_cons (em_var (pv 6)) (am_cons (em_ix ix_seq opm_ix (em_var (pv 4)) (em_var (pv 6)) (fun _ _ => rfl)) am_nil))) am_nil)))))
    (ss_one (s_sub (em_var (pv 7)) (em_var (pv 4)) (em_var (pv 6))))))))
    (ss_one (s_ret (em_frz (em_var (pv 5))))))))).imp cut_sp
theorem ok_law_is_at_most (T : Txt K mg) : FnOk PP w K mg base CX0 2 T.a_law_is_at_most T.d_law_is_at_most ["second", "low", "high"] (spM K mg 3 f_law_is_at_most) := fn_mir T.F_law_is_at_most sc_law_is_at_most fun cdv A outer s H E hr =>
    (ss_one (s_ret (em_cmp (op_eqA hr.units) opm_eq (em_blt call_len cm_len (by rfl) T.b_len PySem.boot_len (am_cons (em_fls (lm_lc (tc_one (by decide)) (pe_lc (own := [("x", 3)]) rfl sc_law_is_at_most.nd (im_rng1 (by rfl) T.b_range (am_cons (em_blt call_len cm_len (by rfl) T.b_len PySem.boot_len (am_cons (em_var (pv 1)) am_nil)) am_nil)) (blkOk_by (by kernel_rfl)) (fun _ _ _ _ _ => (pg_name (i := 3) sc_law_is_at_most.nd rfl (by first | exact Or.inl rfl | exact Or.inr rfl))) (fun _ _ _ _ _ => (pts_M (bm_not (bm_truth (em_call (ok_law_at_most T) n_law_at_most (hr.mono (by decide)) (by rfl) T.g_law_at_most T.F_law_at_most.kp (bi_law_at_most T) .nil (fun _ => .nil) (am_cons (em_ix ix_seq opm_ix (em_var (pv 0)) em_int (fun _ _ => rfl)) (am_cons (em_ix ix_seq opm_ix (em_var (pv 1)) (em_var (pv 3)) (fun _ _ => rfl)) (am_cons (em_ix ix_seq opm_ix (em_var (pv 2)) (em_var (pv 3)) (fun _ _ => rfl)) am_nil)))) fun _ => rfl)))) (fun _ _ _ _ _ => (em_var (pv 3)))))) am_nil)) em_int (nomark _))))
theorem ok_law_due (T : Txt K mg) : FnOk PP w K mg base CX0 5 T.a_law_due T.d_law_due ["first", "second", "high", "low"] (spM K mg 4 f_law_due) := fn_mir T.F_law_due sc_law_due fun cdv A outer s H E hr =>
    (ss_cons (s_if (bm_not (bm_truth (em_call (ok_law_is_at_most T) n_law_is_at_most (hr.mono (by decide)) (by rfl) T.g_law_is_at_most T.F_law_is_at_most.kp (bi_law_is_at_most T) .nil (fun _ => .nil) (am_cons (em_var (pv 1)) (am_cons (em_var (pv 3)) (am_cons (em_var (pv 2)) am_nil)))) fun _ => rfl)) (ss_one (s_ret (em_fls (lm_lst (am_cons em_str (am_cons em_bl am_nil)))))) ss_nil)
    (ss_one (s_ret (em_tup (am_cons em_str (am_cons (em_bty call_tuple_of cm_tup (by rfl) T.b_tuple PyProof.Rows.boot_tuple (am_cons (em_call (ok_law_down T) n_law_down (hr.mono (by decide)) (by rfl) T.g_law_down T.F_law_down.kp (bi_law_down T) .nil (fun _ => .nil) (am_cons (em_var (pv 0)) (am_cons (em_var (pv 1)) (am_cons (em_var (pv 2)) (am_cons (em_var (pv 3)) am_nil))))) am_nil)) am_nil))))))
theorem ok_law (T : Txt K mg) : FnOk PP w K mg base CX0 8 T.a_law T.d_law ["script"] (spM K mg 1 f_law) := fn_mir T.F_law sc_law fun cdv A outer s H E hr =>
    (ss_cons (s_set (i := 1) sc_law.nd rfl (Or.inl rfl) (em_call (ok_law_start T) n_law_start (hr.mono (by decide)) (by rfl) T.g_law_start T.F_law_start.kp (bi_law_start T) .nil (fun _ => .nil) (am_cons (em_var (pv 0)) am_nil)))
    (ss_cons (s_pre (vs := [2, 3, 4, 5, 6, 7, 8, 9, 10]) (s_for PassesOwn.never rfl (im_rng1 (by rfl) T.b_range (am_cons em_int am_nil)) (pg_name (i := 2) sc_law.nd rfl (by first | exact Or.inl rfl | exact Or.inr rfl)) (tg_one 2) (ss_wip (vs := [2, 3, 4, 5, 6, 7, 8, 9, 10]) (ss_cons (s_asg (em_call (ok_law_orders T) n_law_orders (hr.mono (by decide)) (by rfl) T.g_law_orders T.F_law_orders.kp (bi_law_orders T) .nil (fun _ => .nil) (am_cons (em_var (pv 1)) am_nil)) (pg_tup rfl (pgs_cons (pg_name (i := 3) sc_law.nd rfl (by first | exact Or.inl rfl | exact Or.inr rfl)) (pgs_cons (pg_name (i := 4) sc_law.nd rfl (by first | exact Or.inl rfl | exact Or.inr rfl)) pgs_nil))) (tg_tup [3, 4]))
    (ss_cons (s_set (i := 5) sc_law.nd rfl (Or.inl rfl) (em_call (ok_law_map T) n_law_map (hr.mono (by decide)) (by rfl) T.g_law_map T.F_law_map.kp (bi_law_map T) .nil (fun _ => .nil) (am_cons (em_var (pv 1)) (am_cons (em_var (pv 3)) (am_cons (em_var (pv 4)) am_nil)))))
    (ss_cons (s_set (i := 6) sc_law.nd rfl (Or.inl rfl) (em_call (ok_law_lower T) n_law_lower (hr.mono (by decide)) (by rfl) T.g_law_lower T.F_law_lower.kp (bi_law_lower T) .nil (fun _ => .nil) (am_cons (em_var (pv 1)) (am_cons (em_var (pv 3)) (am_cons (em_var (pv 4)) (am_cons (em_var (pv 5)) am_nil))))))
    (ss_cons (s_if (bm_cmp (op_eqA hr.units) opm_eq (em_call (ok_law_draw T) n_law_draw (hr.mono (by decide)) (by rfl) T.g_law_draw T.F_law_draw.kp (bi_law_draw T) .nil (fun _ => .nil) (am_cons (em_var (pv 1)) (am_cons em_int am_nil))) em_int (nomark _)) (ss_cons (s_set (i := 6) sc_law.nd rfl (Or.inl rfl) (em_var (pv 5)))
    (ss_one (s_set (i := 5) sc_law.nd rfl (Or.inl rfl) (em_call (ok_law_higher T) n_law_higher (hr.mono (by decide)) (by rfl) T.g_law_higher T.F_law_higher.kp (bi_law_higher T) .nil (fun _ => .nil) (am_cons (em_var (pv 1)) (am_cons (em_var (pv 3)) (am_cons (em_var (pv 4)) (am_cons (em_var (pv 6)) am_nil)))))))) ss_nil)
    (ss_cons (s_set (i := 7) sc_law.nd rfl (Or.inl rfl) (em_call (ok_law_map T) n_law_map (hr.mono (by decide)) (by rfl) T.g_law_map T.F_law_map.kp (bi_law_map T) .nil (fun _ => .nil) (am_cons (em_var (pv 1)) (am_cons (em_var (pv 3)) (am_cons (em_var (pv 4)) am_nil)))))
    (ss_cons (s_set (i := 8) sc_law.nd rfl (Or.inl rfl) (em_cmp (op_eqA hr.units) opm_eq (em_call (ok_law_draw T) n_law_draw (hr.mono (by decide)) (by rfl) T.g_law_draw T.F_law_draw.kp (bi_law_draw T) .nil (fun _ => .nil) (am_cons (em_var (pv 1)) (am_cons em_int am_nil))) em_int (nomark _)))
    (ss_one (s_pre (vs := [9, 10]) (s_for PassesOwn.never rfl (im_seq (em_fls (lm_lst (am_cons (em_tup (am_cons (em_var (pv 5)) (am_cons (em_var (pv 6)) am_nil))) (am_cons (em_tup (am_cons (em_var (pv 6)) (am_cons (em_var (pv 5)) am_nil))) (am_cons (em_tup (am_cons (em_var (pv 5)) (am_cons (em_var (pv 7)) am_nil))) (am_cons (em_tup (am_cons (em_var (pv 7)) (am_cons (em_var (pv 6)) am_nil))) (am_cons (em_tup (am_cons (em_var (pv 5)) (am_cons (em_var (pv 5)) am_nil))) (am_cons (em_tup (am_cons (em_var (pv 5)) (am_cons (em_var (pv 6)) am_nil))) am_nil))))))))) (pg_tup rfl (pgs_cons (pg_name (i := 9) sc_law.nd rfl (by first | exact Or.inl rfl | exact Or.inr rfl)) (pgs_cons (pg_name (i := 10) sc_law.nd rfl (by first | exact Or.inl rfl | exact Or.inr rfl)) pgs_nil))) (tg_tup [9, 10]) (ss_wip (vs := [9, 10]) (ss_cons (s_if (bm_not (bm_truth (em_call (ok_law_same T) n_law_same (hr.mono (by decide)) (by rfl) T.g_law_same T.F_law_same.kp (bi_law_same T) .nil (fun _ => .nil) (am_cons (em_callN (ok_law_asked T) n_law_asked (hr.mono (by decide)) (by rfl) T.g_law_asked T.F_law_asked.kp (bi_law_asked T) .nil (fun _ => .nil) (am_cons (em_var (pv 3)) (am_cons (em_var (pv 4)) (am_cons (em_var (pv 9)) (am_cons (em_var (pv 10)) (am_cons (em_var (pv 8)) am_nil)))))) (am_cons (em_call (ok_law_due T) n_law_due (hr.mono (by decide)) (by rfl) T.g_law_due T.F_law_due.kp (bi_law_due T) .nil (fun _ => .nil) (am_cons (em_var (pv 3)) (am_cons (em_var (pv 4)) (am_cons (em_var (pv 9)) (am_cons (em_var (pv 10)) am_nil))))) am_nil))) fun _ => rfl)) (ss_one (s_ret em_bl)) ss_nil)
    (ss_one (s_set (i := 8) sc_law.nd rfl (Or.inl rfl) (em_not (em_var (pv 8)))))))))))))))))))
    (ss_one (s_ret em_bl))))
end
end Mi.k15
set_option maxHeartbeats 8000000
namespace Mi.k15
open PySem L2
theorem txt_mk {K : PySem.W.Frag} {h : Heap} {mg : Str → Option Value} {fa : Addr} (X : K.In h) (G : h.Ns mainGlobals mg) (hfa : mg "law" = some (.ref fa)) {f0 : Addr} {od0 an0 : Option Addr} {sl0 : Array (Option Value)} {oc0 kV0 dc0 pm0 cd0 ct0 : Value} {f1 : Addr} {od1 an1 : Option Addr} {sl1 : Array (Option Value)} {oc1 kV1 dc1 pm1 cd1 ct1 : Value} {f2 : Addr} {od2 an2 : Option Addr} {sl2 : Array (Option Value)} {oc2 kV2 dc2 pm2 cd2 ct2 : Value} {f3 : Addr} {od3 an3 : Option Addr} {sl3 : Array (Option Value)} {oc3 kV3 dc3 pm3 cd3 ct3 : Value} {f4 : Addr} {od4 an4 : Option Addr} {sl4 : Array (Option Value)} {oc4 kV4 dc4 pm4 cd4 ct4 : Value} {f5 : Addr} {od5 an5 : Option Addr} {sl5 : Array (Option Value)} {oc5 kV5 dc5 pm5 cd5 ct5 : Value} {f6 : Addr} {od6 an6 : Option Addr} {sl6 : Array (Option Value)} {oc6 kV6 dc6 pm6 cd6 ct6 : Value} {f7 : Addr} {od7 an7 : Option Addr} {sl7 : Array (Option Value)} {oc7 kV7 dc7 pm7 cd7 ct7 : Value} {f8 : Addr} {od8 an8 : Option Addr} {sl8 : Array (Option Value)} {oc8 kV8 dc8 pm8 cd8 ct8 : Value} {f9 : Addr} {od9 an9 : Option Addr} {sl9 : Array (Option Value)} {oc9 kV9 dc9 pm9 cd9 ct9 : Value} {f10 : Addr} {od10 an10 : Option Addr} {sl10 : Array (Option Value)} {oc10 kV10 dc10 pm10 cd10 ct10 : Value} {f11 : Addr} {od11 an11 : Option Addr} {sl11 : Array (Option Value)} {oc11 kV11 dc11 pm11 cd11 ct11 : Value} {f12 : Addr} {od12 an12 : Option Addr} {sl12 : Array (Option Value)} {oc12 kV12 dc12 pm12 cd12 ct12 : Value} {f13 : Addr} {od13 an13 : Option Addr} {sl13 : Array (Option Value)} {oc13 kV13 dc13 pm13 cd13 ct13 : Value} {f14 : Addr} {od14 an14 : Option Addr} {sl14 : Array (Option Value)} {oc14 kV14 dc14 pm14 cd14 ct14 : Value} {f15 : Addr} {od15 an15 : Option Addr} {sl15 : Array (Option Value)} {oc15 kV15 dc15 pm15 cd15 ct15 : Value} {f16 : Addr} {od16 an16 : Option Addr} {sl16 : Array (Option Value)} {oc16 kV16 dc16 pm16 cd16 ct16 : Value} {f17 : Addr} {od17 an17 : Option Addr} {sl17 : Array (Option Value)} {oc17 kV17 dc17 pm17 cd17 ct17 : Value} {f18 : Addr} {od18 an18 : Option Addr} {sl18 : Array (Option Value)} {oc18 kV18 dc18 pm18 cd18 ct18 : Value} {f19 : Addr} {od19 an19 : Option Addr} {sl19 : Array (Option Value)} {oc19 kV19 dc19 pm19 cd19 ct19 : Value} {f20 : Addr} {od20 an20 : Option Addr} {sl20 : Array (Option Value)} {oc20 kV20 dc20 pm20 cd20 ct20 : Value} {f21 : Addr} {od21 an21 : Option Addr} {sl21 : Array (Option Value)} {oc21 kV21 dc21 pm21 cd21 ct21 : Value} {f22 : Addr} {od22 an22 : Option Addr} {sl22 : Array (Option Value)} {oc22 kV22 dc22 pm22 cd22 ct22 : Value} {f23 : Addr} {od23 an23 : Option Addr} {sl23 : Array (Option Value)} {oc23 kV23 dc23 pm23 cd23 ct23 : Value} {f24 : Addr} {od24 an24 : Option Addr} {sl24 : Array (Option Value)} {oc24 kV24 dc24 pm24 cd24 ct24 : Value} {f25 : Addr} {od25 an25 : Option Addr} {sl25 : Array (Option Value)} {oc25 kV25 dc25 pm25 cd25 ct25 : Value} {f26 : Addr} {od26 an26 : Option Addr} {sl26 : Array (Option Value)} {oc26 kV26 dc26 pm26 cd26 ct26 : Value} {f27 : Addr} {od27 an27 : Option Addr} {sl27 : Array (Option Value)} {oc27 kV27 dc27 pm27 cd27 ct27 : Value} {f28 : Addr} {od28 an28 : Option Addr} {sl28 : Array (Option Value)} {oc28 kV28 dc28 pm28 cd28 ct28 : Value} {f29 : Addr} {od29 an29 : Option Addr} {sl29 : Array (Option Value)} {oc29 kV29 dc29 pm29 cd29 ct29 : Value} {C_BadMap : Addr} {C_BadStep : Addr} {C_NotAbove : Addr} {C_StrikeError : Addr} {C_TooLarge : Addr}
    (a0 : PySem.W.nsIn K mainGlobals "_law_start" = some (some (.ref f0)))
    (l0 : K.lookup f0 = some ⟨oc0, od0, .func (PySem.W.fnOf "_law_start" "_law_start" (defArgs s_law_start) (defBody s_law_start) (defScope s_law_start) .none kV0 dc0 pm0 an0 cd0 ct0), sl0⟩)
    (c0 : PySem.W.codeIn K cd0 "_law_start" = true)
    (k0 : PySem.W.keepIn K (.ref f0) = true)
    (a1 : PySem.W.nsIn K mainGlobals "_law_mixed" = some (some (.ref f1)))
    (l1 : K.lookup f1 = some ⟨oc1, od1, .func (PySem.W.fnOf "_law_mixed" "_law_mixed" (defArgs s_law_mixed) (defBody s_law_mixed) (defScope s_law_mixed) .none kV1 dc1 pm1 an1 cd1 ct1), sl1⟩)
    (c1 : PySem.W.codeIn K cd1 "_law_mixed" = true)
    (k1 : PySem.W.keepIn K (.ref f1) = true)
    (a2 : PySem.W.nsIn K mainGlobals "_law_draw" = some (some (.ref f2)))
    (l2 : K.lookup f2 = some ⟨oc2, od2, .func (PySem.W.fnOf "_law_draw" "_law_draw" (defArgs s_law_draw) (defBody s_law_draw) (defScope s_law_draw) .none kV2 dc2 pm2 an2 cd2 ct2), sl2⟩)
    (c2 : PySem.W.codeIn K cd2 "_law_draw" = true)
    (k2 : PySem.W.keepIn K (.ref f2) = true)
    (a3 : PySem.W.nsIn K mainGlobals "_law_same" = some (some (.ref f3)))
    (l3 : K.lookup f3 = some ⟨oc3, od3, .func (PySem.W.fnOf "_law_same" "_law_same" (defArgs s_law_same) (defBody s_law_same) (defScope s_law_same) .none kV3 dc3 pm3 an3 cd3 ct3), sl3⟩)
    (c3 : PySem.W.codeIn K cd3 "_law_same" = true)
    (k3 : PySem.W.keepIn K (.ref f3) = true)
    (a4 : PySem.W.nsIn K mainGlobals "_law_at_most" = some (some (.ref f4)))
    (l4 : K.lookup f4 = some ⟨oc4, od4, .func (PySem.W.fnOf "_law_at_most" "_law_at_most" (defArgs s_law_at_most) (defBody s_law_at_most) (defScope s_law_at_most) .none kV4 dc4 pm4 an4 cd4 ct4), sl4⟩)
    (c4 : PySem.W.codeIn K cd4 "_law_at_most" = true)
    (k4 : PySem.W.keepIn K (.ref f4) = true)
    (a5 : PySem.W.nsIn K mainGlobals "_law_map" = some (some (.ref f5)))
    (l5 : K.lookup f5 = some ⟨oc5, od5, .func (PySem.W.fnOf "_law_map" "_law_map" (defArgs s_law_map) (defBody s_law_map) (defScope s_law_map) .none kV5 dc5 pm5 an5 cd5 ct5), sl5⟩)
    (c5 : PySem.W.codeIn K cd5 "_law_map" = true)
    (k5 : PySem.W.keepIn K (.ref f5) = true)
    (a6 : PySem.W.nsIn K mainGlobals "_law_lower" = some (some (.ref f6)))
    (l6 : K.lookup f6 = some ⟨oc6, od6, .func (PySem.W.fnOf "_law_lower" "_law_lower" (defArgs s_law_lower) (defBody s_law_lower) (defScope s_law_lower) .none kV6 dc6 pm6 an6 cd6 ct6), sl6⟩)
    (c6 : PySem.W.codeIn K cd6 "_law_lower" = true)
    (k6 : PySem.W.keepIn K (.ref f6) = true)
    (a7 : PySem.W.nsIn K mainGlobals "_law_higher" = some (some (.ref f7)))
    (l7 : K.lookup f7 = some ⟨oc7, od7, .func (PySem.W.fnOf "_law_higher" "_law_higher" (defArgs s_law_higher) (defBody s_law_higher) (defScope s_law_higher) .none kV7 dc7 pm7 an7 cd7 ct7), sl7⟩)
    (c7 : PySem.W.codeIn K cd7 "_law_higher" = true)
    (k7 : PySem.W.keepIn K (.ref f7) = true)
    (a8 : PySem.W.nsIn K mainGlobals "_law_lows" = some (some (.ref f8)))
    (l8 : K.lookup f8 = some ⟨oc8, od8, .func (PySem.W.fnOf "_law_lows" "_law_lows" (defArgs s_law_lows) (defBody s_law_lows) (defScope s_law_lows) .none kV8 dc8 pm8 an8 cd8 ct8), sl8⟩)
    (c8 : PySem.W.codeIn K cd8 "_law_lows" = true)
    (k8 : PySem.W.keepIn K (.ref f8) = true)
    (a9 : PySem.W.nsIn K mainGlobals "_law_order" = some (some (.ref f9)))
    (l9 : K.lookup f9 = some ⟨oc9, od9, .func (PySem.W.fnOf "_law_order" "_law_order" (defArgs s_law_order) (defBody s_law_order) (defScope s_law_order) .none kV9 dc9 pm9 an9 cd9 ct9), sl9⟩)
    (c9 : PySem.W.codeIn K cd9 "_law_order" = true)
    (k9 : PySem.W.keepIn K (.ref f9) = true)
    (a10 : PySem.W.nsIn K mainGlobals "_law_orders" = some (some (.ref f10)))
    (l10 : K.lookup f10 = some ⟨oc10, od10, .func (PySem.W.fnOf "_law_orders" "_law_orders" (defArgs s_law_orders) (defBody s_law_orders) (defScope s_law_orders) .none kV10 dc10 pm10 an10 cd10 ct10), sl10⟩)
    (c10 : PySem.W.codeIn K cd10 "_law_orders" = true)
    (k10 : PySem.W.keepIn K (.ref f10) = true)
    (a11 : PySem.W.nsIn K mainGlobals "lowest_in" = some (some (.ref f11)))
    (l11 : K.lookup f11 = some ⟨oc11, od11, .func (PySem.W.fnOf "lowest_in" "lowest_in" (defArgs s_lowest_in) (defBody s_lowest_in) (defScope s_lowest_in) .none kV11 dc11 pm11 an11 cd11 ct11), sl11⟩)
    (c11 : PySem.W.codeIn K cd11 "lowest_in" = true)
    (k11 : PySem.W.keepIn K (.ref f11) = true)
    (a12 : PySem.W.nsIn K mainGlobals "high_masks" = some (some (.ref f12)))
    (l12 : K.lookup f12 = some ⟨oc12, od12, .func (PySem.W.fnOf "high_masks" "high_masks" (defArgs s_high_masks) (defBody s_high_masks) (defScope s_high_masks) .none kV12 dc12 pm12 an12 cd12 ct12), sl12⟩)
    (c12 : PySem.W.codeIn K cd12 "high_masks" = true)
    (k12 : PySem.W.keepIn K (.ref f12) = true)
    (a13 : PySem.W.nsIn K mainGlobals "low_masks" = some (some (.ref f13)))
    (l13 : K.lookup f13 = some ⟨oc13, od13, .func (PySem.W.fnOf "low_masks" "low_masks" (defArgs s_low_masks) (defBody s_low_masks) (defScope s_low_masks) .none kV13 dc13 pm13 an13 cd13 ct13), sl13⟩)
    (c13 : PySem.W.codeIn K cd13 "low_masks" = true)
    (k13 : PySem.W.keepIn K (.ref f13) = true)
    (a14 : PySem.W.nsIn K mainGlobals "at_most_masks" = some (some (.ref f14)))
    (l14 : K.lookup f14 = some ⟨oc14, od14, .func (PySem.W.fnOf "at_most_masks" "at_most_masks" (defArgs s_at_most_masks) (defBody s_at_most_masks) (defScope s_at_most_masks) .none kV14 dc14 pm14 an14 cd14 ct14), sl14⟩)
    (c14 : PySem.W.codeIn K cd14 "at_most_masks" = true)
    (k14 : PySem.W.keepIn K (.ref f14) = true)
    (a15 : PySem.W.nsIn K mainGlobals "covers" = some (some (.ref f15)))
    (l15 : K.lookup f15 = some ⟨oc15, od15, .func (PySem.W.fnOf "covers" "covers" (defArgs s_covers) (defBody s_covers) (defScope s_covers) .none kV15 dc15 pm15 an15 cd15 ct15), sl15⟩)
    (c15 : PySem.W.codeIn K cd15 "covers" = true)
    (k15 : PySem.W.keepIn K (.ref f15) = true)
    (a16 : PySem.W.nsIn K mainGlobals "is_below" = some (some (.ref f16)))
    (l16 : K.lookup f16 = some ⟨oc16, od16, .func (PySem.W.fnOf "is_below" "is_below" (defArgs s_is_below) (defBody s_is_below) (defScope s_is_below) .none kV16 dc16 pm16 an16 cd16 ct16), sl16⟩)
    (c16 : PySem.W.codeIn K cd16 "is_below" = true)
    (k16 : PySem.W.keepIn K (.ref f16) = true)
    (a17 : PySem.W.nsIn K mainGlobals "at_most" = some (some (.ref f17)))
    (l17 : K.lookup f17 = some ⟨oc17, od17, .func (PySem.W.fnOf "at_most" "at_most" (defArgs s_at_most) (defBody s_at_most) (defScope s_at_most) .none kV17 dc17 pm17 an17 cd17 ct17), sl17⟩)
    (c17 : PySem.W.codeIn K cd17 "at_most" = true)
    (k17 : PySem.W.keepIn K (.ref f17) = true)
    (a18 : PySem.W.nsIn K mainGlobals "points_in" = some (some (.ref f18)))
    (l18 : K.lookup f18 = some ⟨oc18, od18, .func (PySem.W.fnOf "points_in" "points_in" (defArgs s_points_in) (defBody s_points_in) (defScope s_points_in) .none kV18 dc18 pm18 an18 cd18 ct18), sl18⟩)
    (c18 : PySem.W.codeIn K cd18 "points_in" = true)
    (k18 : PySem.W.keepIn K (.ref f18) = true)
    (a19 : PySem.W.nsIn K mainGlobals "_top_of" = some (some (.ref f19)))
    (l19 : K.lookup f19 = some ⟨oc19, od19, .func (PySem.W.fnOf "_top_of" "_top_of" (defArgs s_top_of) (defBody s_top_of) (defScope s_top_of) .none kV19 dc19 pm19 an19 cd19 ct19), sl19⟩)
    (c19 : PySem.W.codeIn K cd19 "_top_of" = true)
    (k19 : PySem.W.keepIn K (.ref f19) = true)
    (a20 : PySem.W.nsIn K mainGlobals "steps_up" = some (some (.ref f20)))
    (l20 : K.lookup f20 = some ⟨oc20, od20, .func (PySem.W.fnOf "steps_up" "steps_up" (defArgs s_steps_up) (defBody s_steps_up) (defScope s_steps_up) .none kV20 dc20 pm20 an20 cd20 ct20), sl20⟩)
    (c20 : PySem.W.codeIn K cd20 "steps_up" = true)
    (k20 : PySem.W.keepIn K (.ref f20) = true)
    (a21 : PySem.W.nsIn K mainGlobals "steps_down" = some (some (.ref f21)))
    (l21 : K.lookup f21 = some ⟨oc21, od21, .func (PySem.W.fnOf "steps_down" "steps_down" (defArgs s_steps_down) (defBody s_steps_down) (defScope s_steps_down) .none kV21 dc21 pm21 an21 cd21 ct21), sl21⟩)
    (c21 : PySem.W.codeIn K cd21 "steps_down" = true)
    (k21 : PySem.W.keepIn K (.ref f21) = true)
    (a22 : PySem.W.nsIn K mainGlobals "_law_asked" = some (some (.ref f22)))
    (l22 : K.lookup f22 = some ⟨oc22, od22, .func (PySem.W.fnOf "_law_asked" "_law_asked" (defArgs s_law_asked) (defBody s_law_asked) (defScope s_law_asked) .none kV22 dc22 pm22 an22 cd22 ct22), sl22⟩)
    (c22 : PySem.W.codeIn K cd22 "_law_asked" = true)
    (k22 : PySem.W.keepIn K (.ref f22) = true)
    (a23 : PySem.W.nsIn K mainGlobals "_law_covers" = some (some (.ref f23)))
    (l23 : K.lookup f23 = some ⟨oc23, od23, .func (PySem.W.fnOf "_law_covers" "_law_covers" (defArgs s_law_covers) (defBody s_law_covers) (defScope s_law_covers) .none kV23 dc23 pm23 an23 cd23 ct23), sl23⟩)
    (c23 : PySem.W.codeIn K cd23 "_law_covers" = true)
    (k23 : PySem.W.keepIn K (.ref f23) = true)
    (a24 : PySem.W.nsIn K mainGlobals "_law_next" = some (some (.ref f24)))
    (l24 : K.lookup f24 = some ⟨oc24, od24, .func (PySem.W.fnOf "_law_next" "_law_next" (defArgs s_law_next) (defBody s_law_next) (defScope s_law_next) .none kV24 dc24 pm24 an24 cd24 ct24), sl24⟩)
    (c24 : PySem.W.codeIn K cd24 "_law_next" = true)
    (k24 : PySem.W.keepIn K (.ref f24) = true)
    (a25 : PySem.W.nsIn K mainGlobals "_law_up" = some (some (.ref f25)))
    (l25 : K.lookup f25 = some ⟨oc25, od25, .func (PySem.W.fnOf "_law_up" "_law_up" (defArgs s_law_up) (defBody s_law_up) (defScope s_law_up) .none kV25 dc25 pm25 an25 cd25 ct25), sl25⟩)
    (c25 : PySem.W.codeIn K cd25 "_law_up" = true)
    (k25 : PySem.W.keepIn K (.ref f25) = true)
    (a26 : PySem.W.nsIn K mainGlobals "_law_down" = some (some (.ref f26)))
    (l26 : K.lookup f26 = some ⟨oc26, od26, .func (PySem.W.fnOf "_law_down" "_law_down" (defArgs s_law_down) (defBody s_law_down) (defScope s_law_down) .none kV26 dc26 pm26 an26 cd26 ct26), sl26⟩)
    (c26 : PySem.W.codeIn K cd26 "_law_down" = true)
    (k26 : PySem.W.keepIn K (.ref f26) = true)
    (a27 : PySem.W.nsIn K mainGlobals "_law_is_at_most" = some (some (.ref f27)))
    (l27 : K.lookup f27 = some ⟨oc27, od27, .func (PySem.W.fnOf "_law_is_at_most" "_law_is_at_most" (defArgs s_law_is_at_most) (defBody s_law_is_at_most) (defScope s_law_is_at_most) .none kV27 dc27 pm27 an27 cd27 ct27), sl27⟩)
    (c27 : PySem.W.codeIn K cd27 "_law_is_at_most" = true)
    (k27 : PySem.W.keepIn K (.ref f27) = true)
    (a28 : PySem.W.nsIn K mainGlobals "_law_due" = some (some (.ref f28)))
    (l28 : K.lookup f28 = some ⟨oc28, od28, .func (PySem.W.fnOf "_law_due" "_law_due" (defArgs s_law_due) (defBody s_law_due) (defScope s_law_due) .none kV28 dc28 pm28 an28 cd28 ct28), sl28⟩)
    (c28 : PySem.W.codeIn K cd28 "_law_due" = true)
    (k28 : PySem.W.keepIn K (.ref f28) = true)
    (a29 : PySem.W.nsIn K mainGlobals "law" = some (some (.ref f29)))
    (l29 : K.lookup f29 = some ⟨oc29, od29, .func (PySem.W.fnOf "law" "law" (defArgs s_law) (defBody s_law) (defScope s_law) .none kV29 dc29 pm29 an29 cd29 ct29), sl29⟩)
    (c29 : PySem.W.codeIn K cd29 "law" = true)
    (k29 : PySem.W.keepIn K (.ref f29) = true)
    (z_ValueError : PySem.W.nsIn K mainGlobals "ValueError" = some none)
    (z_bool : PySem.W.nsIn K mainGlobals "bool" = some none)
    (z_enumerate : PySem.W.nsIn K mainGlobals "enumerate" = some none)
    (z_int : PySem.W.nsIn K mainGlobals "int" = some none)
    (z_isinstance : PySem.W.nsIn K mainGlobals "isinstance" = some none)
    (z_len : PySem.W.nsIn K mainGlobals "len" = some none)
    (z_list : PySem.W.nsIn K mainGlobals "list" = some none)
    (z_range : PySem.W.nsIn K mainGlobals "range" = some none)
    (z_str : PySem.W.nsIn K mainGlobals "str" = some none)
    (z_tuple : PySem.W.nsIn K mainGlobals "tuple" = some none)
    (e_sg : PySem.W.specialIn K (.builtin "object.__class__") "__get__" = some (some (.builtin "getset_descriptor.__get__")))
    (e_tk : PySem.W.takesIn K (.builtin "object.__class__") = some true)
    (ea_BadMap : PySem.W.nsIn K mainGlobals "BadMap" = some (some (.ref C_BadMap)))
    (eb_BadMap : PySem.W.keepIn K (.ref C_BadMap) = true)
    (ec_BadMap : PySem.W.isClsIn K C_BadMap = true)
    (ed_BadMap : PySem.W.typeIn K (.ref C_BadMap) = some (.type "type"))
    (ee_BadMap : PySem.W.subIn K (.ref C_BadMap) (.type "BaseException") = some true)
    (ef_BadMap : PySem.W.subIn K (.ref C_BadMap) (.type "ValueError") = some true)
    (eg_BadMap : PySem.W.subIn K (.ref C_BadMap) (.ref C_BadMap) = some true)
    (eh_BadMap : PySem.W.findIn K (.ref C_BadMap) "__getattribute__" = some (some (.builtin "BaseException.__getattribute__")))
    (ei_BadMap : PySem.W.findIn K (.ref C_BadMap) "__getattr__" = some none)
    (ej_BadMap : PySem.W.findIn K (.ref C_BadMap) "__class__" = some (some (.builtin "object.__class__")))
    (ek_BadMap : PySem.W.mroIn K C_BadMap (.type "object") = some true)
    (el_BadMap : PySem.W.hasDictIn K C_BadMap = true)
    (ea_BadStep : PySem.W.nsIn K mainGlobals "BadStep" = some (some (.ref C_BadStep)))
    (eb_BadStep : PySem.W.keepIn K (.ref C_BadStep) = true)
    (ec_BadStep : PySem.W.isClsIn K C_BadStep = true)
    (ed_BadStep : PySem.W.typeIn K (.ref C_BadStep) = some (.type "type"))
    (ee_BadStep : PySem.W.subIn K (.ref C_BadStep) (.type "BaseException") = some true)
    (ef_BadStep : PySem.W.subIn K (.ref C_BadStep) (.type "ValueError") = some true)
    (eg_BadStep : PySem.W.subIn K (.ref C_BadStep) (.ref C_BadStep) = some true)
    (eh_BadStep : PySem.W.findIn K (.ref C_BadStep) "__getattribute__" = some (some (.builtin "BaseException.__getattribute__")))
    (ei_BadStep : PySem.W.findIn K (.ref C_BadStep) "__getattr__" = some none)
    (ej_BadStep : PySem.W.findIn K (.ref C_BadStep) "__class__" = some (some (.builtin "object.__class__")))
    (ek_BadStep : PySem.W.mroIn K C_BadStep (.type "object") = some true)
    (el_BadStep : PySem.W.hasDictIn K C_BadStep = true)
    (ea_NotAbove : PySem.W.nsIn K mainGlobals "NotAbove" = some (some (.ref C_NotAbove)))
    (eb_NotAbove : PySem.W.keepIn K (.ref C_NotAbove) = true)
    (ec_NotAbove : PySem.W.isClsIn K C_NotAbove = true)
    (ed_NotAbove : PySem.W.typeIn K (.ref C_NotAbove) = some (.type "type"))
    (ee_NotAbove : PySem.W.subIn K (.ref C_NotAbove) (.type "BaseException") = some true)
    (ef_NotAbove : PySem.W.subIn K (.ref C_NotAbove) (.type "ValueError") = some true)
    (eg_NotAbove : PySem.W.subIn K (.ref C_NotAbove) (.ref C_NotAbove) = some true)
    (eh_NotAbove : PySem.W.findIn K (.ref C_NotAbove) "__getattribute__" = some (some (.builtin "BaseException.__getattribute__")))
    (ei_NotAbove : PySem.W.findIn K (.ref C_NotAbove) "__getattr__" = some none)
    (ej_NotAbove : PySem.W.findIn K (.ref C_NotAbove) "__class__" = some (some (.builtin "object.__class__")))
    (ek_NotAbove : PySem.W.mroIn K C_NotAbove (.type "object") = some true)
    (el_NotAbove : PySem.W.hasDictIn K C_NotAbove = true)
    (ea_StrikeError : PySem.W.nsIn K mainGlobals "StrikeError" = some (some (.ref C_StrikeError)))
    (eb_StrikeError : PySem.W.keepIn K (.ref C_StrikeError) = true)
    (ec_StrikeError : PySem.W.isClsIn K C_StrikeError = true)
    (ed_StrikeError : PySem.W.typeIn K (.ref C_StrikeError) = some (.type "type"))
    (ee_StrikeError : PySem.W.subIn K (.ref C_StrikeError) (.type "BaseException") = some true)
    (ef_StrikeError : PySem.W.subIn K (.ref C_StrikeError) (.type "ValueError") = some true)
    (eg_StrikeError : PySem.W.subIn K (.ref C_StrikeError) (.ref C_StrikeError) = some true)
    (eh_StrikeError : PySem.W.findIn K (.ref C_StrikeError) "__getattribute__" = some (some (.builtin "BaseException.__getattribute__")))
    (ei_StrikeError : PySem.W.findIn K (.ref C_StrikeError) "__getattr__" = some none)
    (ej_StrikeError : PySem.W.findIn K (.ref C_StrikeError) "__class__" = some (some (.builtin "object.__class__")))
    (ek_StrikeError : PySem.W.mroIn K C_StrikeError (.type "object") = some true)
    (el_StrikeError : PySem.W.hasDictIn K C_StrikeError = true)
    (ea_TooLarge : PySem.W.nsIn K mainGlobals "TooLarge" = some (some (.ref C_TooLarge)))
    (eb_TooLarge : PySem.W.keepIn K (.ref C_TooLarge) = true)
    (ec_TooLarge : PySem.W.isClsIn K C_TooLarge = true)
    (ed_TooLarge : PySem.W.typeIn K (.ref C_TooLarge) = some (.type "type"))
    (ee_TooLarge : PySem.W.subIn K (.ref C_TooLarge) (.type "BaseException") = some true)
    (ef_TooLarge : PySem.W.subIn K (.ref C_TooLarge) (.type "ValueError") = some true)
    (eg_TooLarge : PySem.W.subIn K (.ref C_TooLarge) (.ref C_TooLarge) = some true)
    (eh_TooLarge : PySem.W.findIn K (.ref C_TooLarge) "__getattribute__" = some (some (.builtin "BaseException.__getattribute__")))
    (ei_TooLarge : PySem.W.findIn K (.ref C_TooLarge) "__getattr__" = some none)
    (ej_TooLarge : PySem.W.findIn K (.ref C_TooLarge) "__class__" = some (some (.builtin "object.__class__")))
    (ek_TooLarge : PySem.W.mroIn K C_TooLarge (.type "object") = some true)
    (el_TooLarge : PySem.W.hasDictIn K C_TooLarge = true)
    (xn_NotAbove : PySem.W.excIn K C_NotAbove [.type "ValueError", .type "Exception", .type "BaseException", .type "object"] "ValueError.__new__" = true)
    (p_NotAbove_BadMap : PySem.W.subIn K (.ref C_NotAbove) (.ref C_BadMap) = some false)
    (p_NotAbove_BadStep : PySem.W.subIn K (.ref C_NotAbove) (.ref C_BadStep) = some false)
    (p_NotAbove_StrikeError : PySem.W.subIn K (.ref C_NotAbove) (.ref C_StrikeError) = some true)
    (p_NotAbove_TooLarge : PySem.W.subIn K (.ref C_NotAbove) (.ref C_TooLarge) = some false) :
    ∃ T : Txt K mg, T.a_law = fa := by
  have e := hfa.symm.trans (PySem.W.mg_of X G a29)
  cases e
  exact ⟨⟨f0,
    _,
    fun_mk (st := s_law_start) l0 c0 k0,
    PySem.W.mg_of X G a0,
    f1,
    _,
    fun_mk (st := s_law_mixed) l1 c1 k1,
    PySem.W.mg_of X G a1,
    f2,
    _,
    fun_mk (st := s_law_draw) l2 c2 k2,
    PySem.W.mg_of X G a2,
    f3,
    _,
    fun_mk (st := s_law_same) l3 c3 k3,
    PySem.W.mg_of X G a3,
    f4,
    _,
    fun_mk (st := s_law_at_most) l4 c4 k4,
    PySem.W.mg_of X G a4,
    f5,
    _,
    fun_mk (st := s_law_map) l5 c5 k5,
    PySem.W.mg_of X G a5,
    f6,
    _,
    fun_mk (st := s_law_lower) l6 c6 k6,
    PySem.W.mg_of X G a6,
    f7,
    _,
    fun_mk (st := s_law_higher) l7 c7 k7,
    PySem.W.mg_of X G a7,
    f8,
    _,
    fun_mk (st := s_law_lows) l8 c8 k8,
    PySem.W.mg_of X G a8,
    f9,
    _,
    fun_mk (st := s_law_order) l9 c9 k9,
    PySem.W.mg_of X G a9,
    f10,
    _,
    fun_mk (st := s_law_orders) l10 c10 k10,
    PySem.W.mg_of X G a10,
    f11,
    _,
    fun_mk (st := s_lowest_in) l11 c11 k11,
    PySem.W.mg_of X G a11,
    f12,
    _,
    fun_mk (st := s_high_masks) l12 c12 k12,
    PySem.W.mg_of X G a12,
    f13,
    _,
    fun_mk (st := s_low_masks) l13 c13 k13,
    PySem.W.mg_of X G a13,
    f14,
    _,
    fun_mk (st := s_at_most_masks) l14 c14 k14,
    PySem.W.mg_of X G a14,
    f15,
    _,
    fun_mk (st := s_covers) l15 c15 k15,
    PySem.W.mg_of X G a15,
    f16,
    _,
    fun_mk (st := s_is_below) l16 c16 k16,
    PySem.W.mg_of X G a16,
    f17,
    _,
    fun_mk (st := s_at_most) l17 c17 k17,
    PySem.W.mg_of X G a17,
    f18,
    _,
    fun_mk (st := s_points_in) l18 c18 k18,
    PySem.W.mg_of X G a18,
    f19,
    _,
    fun_mk (st := s_top_of) l19 c19 k19,
    PySem.W.mg_of X G a19,
    f20,
    _,
    fun_mk (st := s_steps_up) l20 c20 k20,
    PySem.W.mg_of X G a20,
    f21,
    _,
    fun_mk (st := s_steps_down) l21 c21 k21,
    PySem.W.mg_of X G a21,
    f22,
    _,
    fun_mk (st := s_law_asked) l22 c22 k22,
    PySem.W.mg_of X G a22,
    f23,
    _,
    fun_mk (st := s_law_covers) l23 c23 k23,
    PySem.W.mg_of X G a23,
    f24,
    _,
    fun_mk (st := s_law_next) l24 c24 k24,
    PySem.W.mg_of X G a24,
    f25,
    _,
    fun_mk (st := s_law_up) l25 c25 k25,
    PySem.W.mg_of X G a25,
    f26,
    _,
    fun_mk (st := s_law_down) l26 c26 k26,
    PySem.W.mg_of X G a26,
    f27,
    _,
    fun_mk (st := s_law_is_at_most) l27 c27 k27,
    PySem.W.mg_of X G a27,
    f28,
    _,
    fun_mk (st := s_law_due) l28 c28 k28,
    PySem.W.mg_of X G a28,
    fa,
    _,
    fun_mk (st := s_law) l29 c29 k29,
    PySem.W.mg_of X G a29,
    PySem.W.mg_none_of X G z_ValueError,
    PySem.W.mg_none_of X G z_bool,
    PySem.W.mg_none_of X G z_enumerate,
    PySem.W.mg_none_of X G z_int,
    PySem.W.mg_none_of X G z_isinstance,
    PySem.W.mg_none_of X G z_len,
    PySem.W.mg_none_of X G z_list,
    PySem.W.mg_none_of X G z_range,
    PySem.W.mg_none_of X G z_str,
    PySem.W.mg_none_of X G z_tuple,
    C_BadMap,
    ⟨PySem.W.mg_of X G ea_BadMap, eb_BadMap, ec_BadMap, ed_BadMap, ee_BadMap, ef_BadMap, eg_BadMap, eh_BadMap, ei_BadMap, ej_BadMap, e_sg, e_tk, ek_BadMap, el_BadMap⟩,
    C_BadStep,
    ⟨PySem.W.mg_of X G ea_BadStep, eb_BadStep, ec_BadStep, ed_BadStep, ee_BadStep, ef_BadStep, eg_BadStep, eh_BadStep, ei_BadStep, ej_BadStep, e_sg, e_tk, ek_BadStep, el_BadStep⟩,
    C_NotAbove,
    ⟨PySem.W.mg_of X G ea_NotAbove, eb_NotAbove, ec_NotAbove, ed_NotAbove, ee_NotAbove, ef_NotAbove, eg_NotAbove, eh_NotAbove, ei_NotAbove, ej_NotAbove, e_sg, e_tk, ek_NotAbove, el_NotAbove⟩,
    C_StrikeError,
    ⟨PySem.W.mg_of X G ea_StrikeError, eb_StrikeError, ec_StrikeError, ed_StrikeError, ee_StrikeError, ef_StrikeError, eg_StrikeError, eh_StrikeError, ei_StrikeError, ej_StrikeError, e_sg, e_tk, ek_StrikeError, el_StrikeError⟩,
    C_TooLarge,
    ⟨PySem.W.mg_of X G ea_TooLarge, eb_TooLarge, ec_TooLarge, ed_TooLarge, ee_TooLarge, ef_TooLarge, eg_TooLarge, eh_TooLarge, ei_TooLarge, ej_TooLarge, e_sg, e_tk, ek_TooLarge, el_TooLarge⟩,
    xn_NotAbove,
    p_NotAbove_BadMap,
    p_NotAbove_BadStep,
    p_NotAbove_StrikeError,
    p_NotAbove_TooLarge⟩, rfl⟩
/-- what is to be shown of the mirror -/
abbrev Law : Prop := ∀ ns : List Int, ns.length ≤ 63 → ∃ h, f_law [.frz (ns.map MV.int)] [] = ok (.bl true) h
theorem all_end {w : World} {K : PySem.W.Frag} {mg : Str → Option Value} {fa : Addr} (L : Law) (hT : ∃ T : Txt K mg, T.a_law = fa) :
    ∃ fd : FuncData, (∀ (s : Shared) (v : Value), BindsTo s fd ⟨[v], []⟩ [("script", v)]) ∧ ∀ base : Heap, K.In base → base.Ns mainGlobals mg → FnOk PP w K mg base CX0 8 fa fd ["script"] (spLaw K) := by
  obtain ⟨T, e⟩ := hT
  subst e
  obtain ⟨oc, od, kV, doc, pm, an, cdv, ct, osl, e, lk, hcd⟩ := T.F_law.ex
  refine ⟨T.d_law, fun s v => ?_, fun base _ _ => (ok_law T).imp (law_start L)⟩
  rw [e]
  exact .of_eq rfl
end Mi.k15
open PySem PySem.W PyProof.Rows
set_option maxRecDepth 100000 in
set_option maxHeartbeats 0 in
theorem PySem.Challenge.cw_strikecore_k15_steps_down_holds : PySem.Challenge.rw_strikecore_k15_steps_down.Holds := by
  w_on; o_law; k_head; (case hw => w_witness2)
  k_fill
  refine L2.walk_ofK (l := PySem.Challenge.rw_strikecore_k15_steps_down) (n := 63) (k := 8) (x := "script") (CX := L2.CX0) (sp := Mi.spLaw) rfl (by decide) rfl ⟨rfl, by decide, by decide⟩ (fun w h Y => PySem.W.kIn_of Y) ?F (fun K H a ns hl _ hS => ⟨a, ns, rfl, hS, hl, fun _ => rfl⟩) (fun _ _ _ _ h => h)
  case F =>
    intro w mg fa h KX G hmg
    refine Mi.k15.all_end Mi.k15.main ?T
    refine' Mi.k15.txt_mk KX G hmg ?a0 ?l0 ?c0 ?k0 ?a1 ?l1 ?c1 ?k1 ?a2 ?l2 ?c2 ?k2 ?a3 ?l3 ?c3 ?k3 ?a4 ?l4 ?c4 ?k4 ?a5 ?l5 ?c5 ?k5 ?a6 ?l6 ?c6 ?k6 ?a7 ?l7 ?c7 ?k7 ?a8 ?l8 ?c8 ?k8 ?a9 ?l9 ?c9 ?k9 ?a10 ?l10 ?c10 ?k10 ?a11 ?l11 ?c11 ?k11 ?a12 ?l12 ?c12 ?k12 ?a13 ?l13 ?c13 ?k13 ?a14 ?l14 ?c14 ?k14 ?a15 ?l15 ?c15 ?k15 ?a16 ?l16 ?c16 ?k16 ?a17 ?l17 ?c17 ?k17 ?a18 ?l18 ?c18 ?k18 ?a19 ?l19 ?c19 ?k19 ?a20 ?l20 ?c20 ?k20 ?a21 ?l21 ?c21 ?k21 ?a22 ?l22 ?c22 ?k22 ?a23 ?l23 ?c23 ?k23 ?a24 ?l24 ?c24 ?k24 ?a25 ?l25 ?c25 ?k25 ?a26 ?l26 ?c26 ?k26 ?a27 ?l27 ?c27 ?k27 ?a28 ?l28 ?c28 ?k28 ?a29 ?l29 ?c29 ?k29 ?z_ValueError ?z_bool ?z_enumerate ?z_int ?z_isinstance ?z_len ?z_list ?z_range ?z_str ?z_tuple ?e_sg ?e_tk ?ea_BadMap ?eb_BadMap ?ec_BadMap ?ed_BadMap ?ee_BadMap ?ef_BadMap ?eg_BadMap ?eh_BadMap ?ei_BadMap ?ej_BadMap ?ek_BadMap ?el_BadMap ?ea_BadStep ?eb_BadStep ?ec_BadStep ?ed_BadStep ?ee_BadStep ?ef_BadStep ?eg_BadStep ?eh_BadStep ?ei_BadStep ?ej_BadStep ?ek_BadStep ?el_BadStep ?ea_NotAbove ?eb_NotAbove ?ec_NotAbove ?ed_NotAbove ?ee_NotAbove ?ef_NotAbove ?eg_NotAbove ?eh_NotAbove ?ei_NotAbove ?ej_NotAbove ?ek_NotAbove ?el_NotAbove ?ea_StrikeError ?eb_StrikeError ?ec_StrikeError ?ed_StrikeError ?ee_StrikeError ?ef_StrikeError ?eg_StrikeError ?eh_StrikeError ?ei_StrikeError ?ej_StrikeError ?ek_StrikeError ?el_StrikeError ?ea_TooLarge ?eb_TooLarge ?ec_TooLarge ?ed_TooLarge ?ee_TooLarge ?ef_TooLarge ?eg_TooLarge ?eh_TooLarge ?ei_TooLarge ?ej_TooLarge ?ek_TooLarge ?el_TooLarge ?xn_NotAbove ?p_NotAbove_BadMap ?p_NotAbove_BadStep ?p_NotAbove_StrikeError ?p_NotAbove_TooLarge
    (case a0 => k_is)
    (case l0 => k_is)
    (case c0 => k_is)
    (case k0 => k_is)
    (case a1 => k_is)
    (case l1 => k_is)
    (case c1 => k_is)
    (case k1 => k_is)
    (case a2 => k_is)
    (case l2 => k_is)
    (case c2 => k_is)
    (case k2 => k_is)
    (case a3 => k_is)
    (case l3 => k_is)
    (case c3 => k_is)
    (case k3 => k_is)
    (case a4 => k_is)
    (case l4 => k_is)
    (case c4 => k_is)
    (case k4 => k_is)
    (case a5 => k_is)
    (case l5 => k_is)
    (case c5 => k_is)
    (case k5 => k_is)
    (case a6 => k_is)
    (case l6 => k_is)
    (case c6 => k_is)
    (case k6 => k_is)
    (case a7 => k_is)
    (case l7 => k_is)
    (case c7 => k_is)
    (case k7 => k_is)
    (case a8 => k_is)
    (case l8 => k_is)
    (case c8 => k_is)
    (case k8 => k_is)
    (case a9 => k_is)
    (case l9 => k_is)
    (case c9 => k_is)
    (case k9 => k_is)
    (case a10 => k_is)
    (case l10 => k_is)
    (case c10 => k_is)
    (case k10 => k_is)
    (case a11 => k_is)
    (case l11 => k_is)
    (case c11 => k_is)
    (case k11 => k_is)
    (case a12 => k_is)
    (case l12 => k_is)
    (case c12 => k_is)
    (case k12 => k_is)
    (case a13 => k_is)
    (case l13 => k_is)
    (case c13 => k_is)
    (case k13 => k_is)
    (case a14 => k_is)
    (case l14 => k_is)
    (case c14 => k_is)
    (case k14 => k_is)
    (case a15 => k_is)
    (case l15 => k_is)
    (case c15 => k_is)
    (case k15 => k_is)
    (case a16 => k_is)
    (case l16 => k_is)
    (case c16 => k_is)
    (case k16 => k_is)
    (case a17 => k_is)
    (case l17 => k_is)
    (case c17 => k_is)
    (case k17 => k_is)
    (case a18 => k_is)
    (case l18 => k_is)
    (case c18 => k_is)
    (case k18 => k_is)
    (case a19 => k_is)
    (case l19 => k_is)
    (case c19 => k_is)
    (case k19 => k_is)
    (case a20 => k_is)
    (case l20 => k_is)
    (case c20 => k_is)
    (case k20 => k_is)
    (case a21 => k_is)
    (case l21 => k_is)
    (case c21 => k_is)
    (case k21 => k_is)
    (case a22 => k_is)
    (case l22 => k_is)
    (case c22 => k_is)
    (case k22 => k_is)
    (case a23 => k_is)
    (case l23 => k_is)
    (case c23 => k_is)
    (case k23 => k_is)
    (case a24 => k_is)
    (case l24 => k_is)
    (case c24 => k_is)
    (case k24 => k_is)
    (case a25 => k_is)
    (case l25 => k_is)
    (case c25 => k_is)
    (case k25 => k_is)
    (case a26 => k_is)
    (case l26 => k_is)
    (case c26 => k_is)
    (case k26 => k_is)
    (case a27 => k_is)
    (case l27 => k_is)
    (case c27 => k_is)
    (case k27 => k_is)
    (case a28 => k_is)
    (case l28 => k_is)
    (case c28 => k_is)
    (case k28 => k_is)
    (case a29 => k_is)
    (case l29 => k_is)
    (case c29 => k_is)
    (case k29 => k_is)
    (case z_ValueError => k_is)
    (case z_bool => k_is)
    (case z_enumerate => k_is)
    (case z_int => k_is)
    (case z_isinstance => k_is)
    (case z_len => k_is)
    (case z_list => k_is)
    (case z_range => k_is)
    (case z_str => k_is)
    (case z_tuple => k_is)
    (case e_sg => k_is)
    (case e_tk => k_is)
    (case ea_BadMap => k_is)
    (case eb_BadMap => k_is)
    (case ec_BadMap => k_is)
    (case ed_BadMap => k_is)
    (case ee_BadMap => k_is)
    (case ef_BadMap => k_is)
    (case eg_BadMap => k_is)
    (case eh_BadMap => k_is)
    (case ei_BadMap => k_is)
    (case ej_BadMap => k_is)
    (case ek_BadMap => k_is)
    (case el_BadMap => k_is)
    (case ea_BadStep => k_is)
    (case eb_BadStep => k_is)
    (case ec_BadStep => k_is)
    (case ed_BadStep => k_is)
    (case ee_BadStep => k_is)
    (case ef_BadStep => k_is)
    (case eg_BadStep => k_is)
    (case eh_BadStep => k_is)
    (case ei_BadStep => k_is)
    (case ej_BadStep => k_is)
    (case ek_BadStep => k_is)
    (case el_BadStep => k_is)
    (case ea_NotAbove => k_is)
    (case eb_NotAbove => k_is)
    (case ec_NotAbove => k_is)
    (case ed_NotAbove => k_is)
    (case ee_NotAbove => k_is)
    (case ef_NotAbove => k_is)
    (case eg_NotAbove => k_is)
    (case eh_NotAbove => k_is)
    (case ei_NotAbove => k_is)
    (case ej_NotAbove => k_is)
    (case ek_NotAbove => k_is)
    (case el_NotAbove => k_is)
    (case ea_StrikeError => k_is)
    (case eb_StrikeError => k_is)
    (case ec_StrikeError => k_is)
    (case ed_StrikeError => k_is)
    (case ee_StrikeError => k_is)
    (case ef_StrikeError => k_is)
    (case eg_StrikeError => k_is)
    (case eh_StrikeError => k_is)
    (case ei_StrikeError => k_is)
    (case ej_StrikeError => k_is)
    (case ek_StrikeError => k_is)
    (case el_StrikeError => k_is)
    (case ea_TooLarge => k_is)
    (case eb_TooLarge => k_is)
    (case ec_TooLarge => k_is)
    (case ed_TooLarge => k_is)
    (case ee_TooLarge => k_is)
    (case ef_TooLarge => k_is)
    (case eg_TooLarge => k_is)
    (case eh_TooLarge => k_is)
    (case ei_TooLarge => k_is)
    (case ej_TooLarge => k_is)
    (case ek_TooLarge => k_is)
    (case el_TooLarge => k_is)
    (case xn_NotAbove => k_exc)
    (case p_NotAbove_BadMap => k_is)
    (case p_NotAbove_BadStep => k_is)
    (case p_NotAbove_StrikeError => k_is)
    (case p_NotAbove_TooLarge => k_is)
