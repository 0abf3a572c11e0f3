import PyProof.Rows.All
import Wide.All
import OpenK.AllK
import Wide.FinOn
import HandS.ForMost
import HandS.IsInst
import HandS.Style
import HandS.Wide
import HandS.TupAny
import HandS.Flow
import HandS.Defaults
import HandS.SortRule
import HandS.Conv
import HandS.SortInts
import KE.GoesEnum
import HandS.Iter
import HandS.DictComp
import HandS.WideBits
import HandS.TryOnly
import HandS.Deep
import HandS.More
import PySem.Challenge.RW_strikecore_k03_covers_lead_back
set_option Elab.async false
set_option linter.all false
set_option maxRecDepth 100000
set_option maxHeartbeats 2000000
/-! Mi: a mirror of a def, computed: values, heap, worlds. -/
namespace Mi
open PySem L2
/-! ### the mirror's data -/
inductive MV where
  | non | bl (b : Bool) | int (i : Int) | str (x : Str) | tup (xs : List MV) | ktp (xs : List MV) | fls (xs : List MV) | frz (xs : List MV) | ref (l : Nat)
inductive MO where
  | dead | lst (xs : List MV) | dK (kvs : List (Key × MV))
abbrev MH := List MO
abbrev MS := List (Option MV)
structure MX where
  cls : Str
  flds : List (Str × MV)
inductive Out (α : Type) where
  | ok (a : α) (h : MH) | ex (e : MX) (h : MH)
abbrev Res (α : Type) := Option (Out α)
abbrev MM (α : Type) := MS → MH → Res α
abbrev ME := MM MV
@[simp ↓] def Res.bnd {α β : Type} (r : Res α) (k : α → MH → Res β) : Res β := match r with
  | none => none
  | some (.ok a h) => k a h
  | some (.ex e h) => some (.ex e h)
inductive OutS where
  | nx (s : MS) (h : MH) | ret (x : MV) (h : MH) | brk (s : MS) (h : MH) | cnt (s : MS) (h : MH) | ex (e : MX) (h : MH)
abbrev MT := MS → MH → Option OutS
/-! ### worlds: which address bears which place of the mirror's heap -/
abbrev Phi := Nat → Option Addr
structure Wd where
  f : Phi
  n : Nat
  H : Hp
  hid : Addr → Prop
/-- nothing of the mirror writes there -/
def Stab (W : Wd) (p : Addr) : Prop := (∀ l, W.f l ≠ some p) ∧ ¬ W.hid p
mutual
inductive RV (K : PySem.W.Frag) (W : Wd) : MV → V → Prop
  | non : RV K W .non .non
  | bl (b : Bool) : RV K W (.bl b) (.bl b)
  | int (i : Int) : RV K W (.int i) (.int i)
  | str (x : Str) : RV K W (.str x) (.str x)
  | ref {l : Nat} {a : Addr} (lt : l < W.n) (e : ∀ b, W.f l = some b → b = a) : RV K W (.ref l) (.ref a)
  | tup {p : Addr} {xs : List MV} {vs : List V} (s : Stab W p) (e : W.H p = some (.tup vs)) (r : RVs K W xs vs) : RV K W (.tup xs) (.ref p)
  | tupK {p : Addr} {xs : List MV} {vs : List V} (e : ∀ H, SqT K H p vs) (r : RVs K W xs vs) : RV K W (.ktp xs) (.ref p)
  | fls {p : Addr} {xs : List MV} {vs : List V} (s : Stab W p) (e : W.H p = some (.lst vs)) (r : RVs K W xs vs) : RV K W (.fls xs) (.ref p)
  | frz {p : Addr} {xs : List MV} {vs : List V} (s : Stab W p) (e : Rd W.H p (.lst vs)) (r : RVs K W xs vs) : RV K W (.frz xs) (.ref p)
  | frzK {p : Addr} {xs : List MV} {vs : List V} (e : ∀ H, SqL K H p vs) (r : RVs K W xs vs) : RV K W (.frz xs) (.ref p)
inductive RVs (K : PySem.W.Frag) (W : Wd) : List MV → List V → Prop
  | nil : RVs K W [] []
  | cons {x : MV} {v : V} {xs : List MV} {vs : List V} (r : RV K W x v) (t : RVs K W xs vs) : RVs K W (x :: xs) (v :: vs)
end
inductive RKV (K : PySem.W.Frag) (W : Wd) {κ : Type} : List (κ × MV) → List (κ × V) → Prop
  | nil : RKV K W [] []
  | cons {k : κ} {x : MV} {v : V} {xs : List (κ × MV)} {vs : List (κ × V)} (r : RV K W x v) (t : RKV K W xs vs) : RKV K W ((k, x) :: xs) ((k, v) :: vs)
def RO (K : PySem.W.Frag) (W : Wd) : MO → Addr → Prop
  | .dead, _ => False
  | .lst xs, a => ∃ vs, W.H a = some (.lst vs) ∧ RVs K W xs vs
  | .dK kvs, a => ∃ kws, W.H a = some (.dK kws) ∧ RKV K W kvs kws
structure Sim (K : PySem.W.Frag) (W : Wd) (h : MH) : Prop where
  n : W.n = h.length
  lt : ∀ l a, W.f l = some a → l < h.length
  inj : ∀ i j a, W.f i = some a → W.f j = some a → i = j
  obj : ∀ l a, W.f l = some a → ∃ o, h[l]? = some o ∧ RO K W o a
  live : ∀ l o, h[l]? = some o → o ≠ .dead → ∃ a, W.f l = some a
  nhid : ∀ l a, W.f l = some a → ¬ W.hid a
  hids : ∀ p, W.hid p → W.H p ≠ none
structure Ext (W W' : Wd) : Prop where
  le : W.n ≤ W'.n
  agree : ∀ l, l < W.n → W'.f l = W.f l ∨ W'.f l = none
  frame : ∀ p o, Stab W p → W.H p = some o → W'.H p = some o ∧ Stab W' p
  hidf : ∀ p o, W.hid p → W.H p = some o → W'.H p = some o ∧ W'.hid p
theorem Ext.refl (W : Wd) : Ext W W := ⟨Nat.le_refl _, fun _ _ => .inl rfl, fun _ _ s e => ⟨e, s⟩, fun _ _ s e => ⟨e, s⟩⟩
theorem Ext.trans {W W1 W2 : Wd} (a : Ext W W1) (b : Ext W1 W2) : Ext W W2 where
  le := Nat.le_trans a.le b.le
  agree := fun l hl => by
    rcases b.agree l (Nat.lt_of_lt_of_le hl a.le) with e | e
    · rw [e]
      exact a.agree l hl
    · exact .inr e
  frame := fun p o s e => by
    obtain ⟨e1, s1⟩ := a.frame p o s e
    exact b.frame p o s1 e1
  hidf := fun p o s e => by
    obtain ⟨e1, s1⟩ := a.hidf p o s e
    exact b.hidf p o s1 e1
theorem Ext.rd {W W' : Wd} (x : Ext W W') {p : Addr} {o : HO} (s : Stab W p) (e : Rd W.H p o) : Rd W'.H p o ∧ Stab W' p := by
  rcases e with e | ⟨u, e⟩
  · exact ⟨.inl (x.frame p _ s e).1, (x.frame p _ s e).2⟩
  · exact ⟨.inr ⟨u, (x.frame p _ s e).1⟩, (x.frame p _ s e).2⟩
section
variable {K : PySem.W.Frag} {W W' : Wd}
mutual
theorem RV.mono (x : Ext W W') : ∀ {m : MV} {v : V}, RV K W m v → RV K W' m v
  | _, _, .non => .non
  | _, _, .bl b => .bl b
  | _, _, .int i => .int i
  | _, _, .str s => .str s
  | _, _, .ref lt e => .ref (Nat.lt_of_lt_of_le lt x.le) fun b hb => by
    rcases x.agree _ lt with q | q
    · exact e b (q ▸ hb)
    · rw [q] at hb
      cases hb
  | _, _, .tup s e r => .tup (x.frame _ _ s e).2 (x.frame _ _ s e).1 (RVs.mono x r)
  | _, _, .tupK e r => .tupK e (RVs.mono x r)
  | _, _, .fls s e r => .fls (x.frame _ _ s e).2 (x.frame _ _ s e).1 (RVs.mono x r)
  | _, _, .frz s e r => .frz (x.rd s e).2 (x.rd s e).1 (RVs.mono x r)
  | _, _, .frzK e r => .frzK e (RVs.mono x r)
theorem RVs.mono (x : Ext W W') : ∀ {ms : List MV} {vs : List V}, RVs K W ms vs → RVs K W' ms vs
  | _, _, .nil => .nil
  | _, _, .cons r t => .cons (RV.mono x r) (RVs.mono x t)
end
theorem RKV.mono {κ : Type} (x : Ext W W') : ∀ {ms : List (κ × MV)} {vs : List (κ × V)}, RKV K W ms vs → RKV K W' ms vs
  | _, _, .nil => .nil
  | _, _, .cons r t => .cons (r.mono x) (RKV.mono x t)
theorem RVs.length : ∀ {xs : List MV} {vs : List V}, RVs K W xs vs → xs.length = vs.length
  | _, _, .nil => rfl
  | _, _, .cons _ t => by rw [List.length_cons, List.length_cons, RVs.length t]
theorem RVs.get : ∀ {xs : List MV} {vs : List V} {i : Nat} {x : MV}, RVs K W xs vs → xs[i]? = some x → ∃ v, vs[i]? = some v ∧ RV K W x v
  | _, _, _, _, .nil, e => by simp at e
  | _, _, 0, _, .cons r _, e => by
    simp at e
    subst e
    exact ⟨_, rfl, r⟩
  | _, _, i + 1, _, .cons _ t, e => by
    obtain ⟨v, a, b⟩ := RVs.get (i := i) t (by simpa using e)
    exact ⟨v, by simpa using a, b⟩
theorem RVs.append : ∀ {xs ys : List MV} {vs ws : List V}, RVs K W xs vs → RVs K W ys ws → RVs K W (xs ++ ys) (vs ++ ws)
  | _, _, _, _, .nil, s => s
  | _, _, _, _, .cons r t, s => .cons r (RVs.append t s)
theorem RVs.one {x : MV} {v : V} (r : RV K W x v) : RVs K W [x] [v] := .cons r .nil
theorem RVs.take : ∀ {xs : List MV} {vs : List V} (n : Nat), RVs K W xs vs → RVs K W (xs.take n) (vs.take n)
  | _, _, 0, _ => .nil
  | _, _, _ + 1, .nil => .nil
  | _, _, n + 1, .cons r t => .cons r (RVs.take n t)
theorem RVs.drop : ∀ {xs : List MV} {vs : List V} (n : Nat), RVs K W xs vs → RVs K W (xs.drop n) (vs.drop n)
  | _, _, 0, r => r
  | _, _, _ + 1, .nil => .nil
  | _, _, n + 1, .cons _ t => RVs.drop n t
theorem RVs.set {x : MV} {v : V} (r : RV K W x v) : ∀ {xs : List MV} {vs : List V} (i : Nat), RVs K W xs vs → RVs K W (xs.set i x) (vs.set i v)
  | _, _, _, .nil => .nil
  | _, _, 0, .cons _ t => .cons r t
  | _, _, i + 1, .cons q t => .cons q (RVs.set r i t)
theorem RVs.eraseIdx : ∀ {xs : List MV} {vs : List V} (i : Nat), RVs K W xs vs → RVs K W (xs.eraseIdx i) (vs.eraseIdx i)
  | _, _, _, .nil => .nil
  | _, _, 0, .cons _ t => t
  | _, _, i + 1, .cons q t => .cons q (RVs.eraseIdx i t)
theorem RVs.reverse : ∀ {xs : List MV} {vs : List V}, RVs K W xs vs → RVs K W xs.reverse vs.reverse
  | _, _, .nil => .nil
  | _, _, .cons r t => by
    rw [List.reverse_cons, List.reverse_cons]
    exact (RVs.reverse t).append (.one r)
theorem RVs.nil_iff {xs : List MV} {vs : List V} (r : RVs K W xs vs) : xs.isEmpty = vs.isEmpty := by
  cases r <;> rfl
theorem RO.mono {o : MO} {a : Addr} (x : Ext W W') (r : RO K W o a) (e : W'.H a = W.H a) : RO K W' o a := by
  cases o with
  | dead => exact r
  | lst xs =>
    obtain ⟨vs, q, t⟩ := r
    exact ⟨vs, e.trans q, t.mono x⟩
  | dK kvs =>
    obtain ⟨vs, q, t⟩ := r
    exact ⟨vs, e.trans q, t.mono x⟩
theorem RO.has {o : MO} {a : Addr} (r : RO K W o a) : ∃ u, W.H a = some u := by
  cases o with
  | dead => exact r.elim
  | lst xs =>
    obtain ⟨vs, q, _⟩ := r
    exact ⟨_, q⟩
  | dK kvs =>
    obtain ⟨vs, q, _⟩ := r
    exact ⟨_, q⟩
theorem Sim.has {h : MH} (S : Sim K W h) {l : Nat} {a : Addr} (e : W.f l = some a) : ∃ u, W.H a = some u := by
  obtain ⟨o, _, r⟩ := S.obj l a e
  exact r.has
theorem Sim.fresh {h : MH} (S : Sim K W h) {p : Addr} (hp : W.H p = none) : Stab W p := ⟨fun l e => (by
  obtain ⟨u, q⟩ := S.has e
  rw [hp] at q
  cases q), fun hh => S.hids p hh hp⟩
/-! ### how a world grows -/
/-- something that the mirror's heap does not bear is laid at p -/
def Wd.put (W : Wd) (p : Addr) (o : HO) : Wd := ⟨W.f, W.n, upd W.H p o, W.hid⟩
theorem Ext.put {h : MH} (S : Sim K W h) {p : Addr} {o : HO} (hp : W.H p = none) : Ext W (W.put p o) := ⟨Nat.le_refl _, fun _ _ => .inl rfl, fun q u s e => ⟨by
  show upd W.H p o q = some u
  rw [upd_ne (ne_of_none e hp)]
  exact e, s⟩, fun q u s e => ⟨by
  show upd W.H p o q = some u
  rw [upd_ne (ne_of_none e hp)]
  exact e, s⟩⟩
theorem Sim.put {h : MH} (S : Sim K W h) {p : Addr} {o : HO} (hp : W.H p = none) : Sim K (W.put p o) h where
  n := S.n
  lt := S.lt
  inj := S.inj
  obj := fun l a e => by
    obtain ⟨u, e1, r⟩ := S.obj l a e
    refine ⟨u, e1, r.mono (Ext.put S hp) ?_⟩
    show upd W.H p o a = W.H a
    obtain ⟨u2, q⟩ := r.has
    rw [upd_ne (ne_of_none q hp)]
  live := S.live
  nhid := S.nhid
  hids := fun q hq e => by
    have e' : upd W.H p o q = none := e
    by_cases hz : q = p
    · rw [hz, upd_same] at e'
      cases e'
    · rw [upd_ne hz] at e'
      exact S.hids q hq e'
/-- a new object of the mirror's heap -/
def Wd.add (W : Wd) (p : Addr) (o : HO) : Wd := ⟨fun l => if l = W.n then some p else W.f l, W.n + 1, upd W.H p o, W.hid⟩
theorem Ext.add {h : MH} (S : Sim K W h) {p : Addr} {o : HO} (hp : W.H p = none) : Ext W (W.add p o) where
  le := Nat.le_succ _
  agree := fun l hl => .inl (if_neg (Nat.ne_of_lt hl))
  frame := fun q u s e => by
    have hq : q ≠ p := ne_of_none e hp
    refine ⟨?_, fun l z => ?_, s.2⟩
    · show upd W.H p o q = some u
      rw [upd_ne hq]
      exact e
    · have z' : (if l = W.n then some p else W.f l) = some q := z
      by_cases hl : l = W.n
      · rw [if_pos hl] at z'
        exact hq (Option.some.inj z').symm
      · rw [if_neg hl] at z'
        exact s.1 l z'
  hidf := fun q u s e => ⟨by
    show upd W.H p o q = some u
    rw [upd_ne (ne_of_none e hp)]
    exact e, s⟩
theorem Sim.add {h : MH} {m : MO} (S : Sim K W h) {p : Addr} {o : HO} (hp : W.H p = none) (hr : RO K (W.add p o) m p) : Sim K (W.add p o) (h ++ [m]) where
  n := by
    show W.n + 1 = _
    rw [List.length_append, S.n]
    rfl
  lt := fun l a e => by
    have e' : (if l = W.n then some p else W.f l) = some a := e
    rw [List.length_append]
    show l < h.length + 1
    by_cases hl : l = W.n
    · rw [hl, S.n]
      exact Nat.lt_succ_self _
    · rw [if_neg hl] at e'
      exact Nat.lt_succ_of_lt (S.lt l a e')
  inj := fun i j a ei ej => by
    have ei' : (if i = W.n then some p else W.f i) = some a := ei
    have ej' : (if j = W.n then some p else W.f j) = some a := ej
    have no : ∀ k, W.f k = some p → False := fun k e => (S.fresh hp).1 k e
    by_cases hi : i = W.n
    · by_cases hj : j = W.n
      · rw [hi, hj]
      · rw [if_pos hi] at ei'
        rw [if_neg hj, ← ei'] at ej'
        exact (no j ej').elim
    · rw [if_neg hi] at ei'
      by_cases hj : j = W.n
      · rw [if_pos hj] at ej'
        rw [← ej'] at ei'
        exact (no i ei').elim
      · rw [if_neg hj] at ej'
        exact S.inj i j a ei' ej'
  obj := fun l a e => by
    have e' : (if l = W.n then some p else W.f l) = some a := e
    by_cases hl : l = W.n
    · rw [if_pos hl] at e'
      cases e'
      exact ⟨m, by rw [hl, S.n]; simp, hr⟩
    · rw [if_neg hl] at e'
      obtain ⟨u, e1, r⟩ := S.obj l a e'
      refine ⟨u, by rw [List.getElem?_append_left (S.lt l a e')]; exact e1, r.mono (Ext.add S hp) ?_⟩
      obtain ⟨u2, q⟩ := r.has
      show upd W.H p o a = W.H a
      rw [upd_ne (ne_of_none q hp)]
  live := fun l u e d => by
    by_cases hl : l = W.n
    · exact ⟨p, if_pos hl⟩
    · have hlt : l < h.length := by
        have := (List.getElem?_eq_some_iff.mp e).1
        rw [List.length_append] at this
        have t : l < h.length + 1 := this
        have := S.n
        omega
      rw [List.getElem?_append_left hlt] at e
      obtain ⟨a, ea⟩ := S.live l u e d
      exact ⟨a, (if_neg hl).trans ea⟩
  nhid := fun l a e => by
    have e' : (if l = W.n then some p else W.f l) = some a := e
    by_cases hl : l = W.n
    · rw [if_pos hl] at e'
      cases e'
      exact (S.fresh hp).2
    · rw [if_neg hl] at e'
      exact S.nhid l a e'
  hids := fun q hq e => by
    have e' : upd W.H p o q = none := e
    by_cases hz : q = p
    · rw [hz, upd_same] at e'
      cases e'
    · rw [upd_ne hz] at e'
      exact S.hids q hq e'
/-- an object of the mirror's heap is written -/
def Wd.wr (W : Wd) (p : Addr) (o : HO) : Wd := ⟨W.f, W.n, upd W.H p o, W.hid⟩
theorem Ext.wr {h : MH} (S : Sim K W h) {l : Nat} {p : Addr} {o : HO} (e : W.f l = some p) : Ext W (W.wr p o) := ⟨Nat.le_refl _, fun _ _ => .inl rfl, fun q u s eq => ⟨by
  show upd W.H p o q = some u
  rw [upd_ne (fun z => s.1 l (by rw [z]; exact e))]
  exact eq, s⟩, fun q u s eq => ⟨by
  show upd W.H p o q = some u
  rw [upd_ne (fun z => S.nhid l p e (by rw [← z]; exact s))]
  exact eq, s⟩⟩
theorem Sim.wr {h : MH} {m : MO} (S : Sim K W h) {l : Nat} {p : Addr} {o : HO} (e : W.f l = some p) (hr : RO K (W.wr p o) m p) : Sim K (W.wr p o) (h.set l m) where
  n := by
    rw [List.length_set]
    exact S.n
  lt := fun j a ej => by
    rw [List.length_set]
    exact S.lt j a ej
  inj := S.inj
  obj := fun j a ej => by
    have hl := S.lt l p e
    by_cases hj : j = l
    · subst hj
      have ej' : W.f j = some a := ej
      rw [e] at ej'
      cases ej'
      exact ⟨m, List.getElem?_set_self hl, hr⟩
    · obtain ⟨u, e1, r⟩ := S.obj j a ej
      refine ⟨u, by rw [List.getElem?_set_ne (Ne.symm hj)]; exact e1, r.mono (Ext.wr S e) ?_⟩
      show upd W.H p o a = W.H a
      rw [upd_ne fun z => hj (S.inj j l p (by rw [← z]; exact ej) e)]
  live := fun j u ej d => by
    by_cases hj : j = l
    · exact ⟨p, by rw [hj]; exact e⟩
    · rw [List.getElem?_set_ne (Ne.symm hj)] at ej
      exact S.live j u ej d
  nhid := S.nhid
  hids := fun q hq e => by
    have e' : upd W.H p o q = none := e
    by_cases hz : q = p
    · rw [hz, upd_same] at e'
      cases e'
    · rw [upd_ne hz] at e'
      exact S.hids q hq e'
/-- an object is given up: from now on it stands still -/
def Wd.kill (W : Wd) (l : Nat) : Wd := ⟨fun j => if j = l then none else W.f j, W.n, W.H, W.hid⟩
theorem Wd.kill_some {l j : Nat} {a : Addr} (e : (W.kill l).f j = some a) : j ≠ l ∧ W.f j = some a := by
  have e' : (if j = l then none else W.f j) = some a := e
  by_cases hj : j = l
  · rw [if_pos hj] at e'
    cases e'
  · rw [if_neg hj] at e'
    exact ⟨hj, e'⟩
theorem Ext.kill (W : Wd) (l : Nat) : Ext W (W.kill l) := ⟨Nat.le_refl _, fun j _ => by
  by_cases hj : j = l
  · exact .inr (if_pos hj)
  · exact .inl (if_neg hj), fun q u s eq => ⟨eq, fun j z => s.1 j (Wd.kill_some z).2, s.2⟩, fun q u s eq => ⟨eq, s⟩⟩
theorem Sim.kill {h : MH} (S : Sim K W h) (l : Nat) : Sim K (W.kill l) (h.set l .dead) where
  n := by
    rw [List.length_set]
    exact S.n
  lt := fun j a ej => by
    rw [List.length_set]
    exact S.lt j a (Wd.kill_some ej).2
  inj := fun i j a ei ej => S.inj i j a (Wd.kill_some ei).2 (Wd.kill_some ej).2
  obj := fun j a ej => by
    obtain ⟨hj, e1⟩ := Wd.kill_some ej
    obtain ⟨u, e2, r⟩ := S.obj j a e1
    exact ⟨u, by rw [List.getElem?_set_ne (Ne.symm hj)]; exact e2, r.mono (Ext.kill W l) rfl⟩
  live := fun j u ej d => by
    by_cases hj : j = l
    · subst hj
      have hlt : j < h.length := by
        have := (List.getElem?_eq_some_iff.mp ej).1
        rw [List.length_set] at this
        exact this
      rw [List.getElem?_set_self hlt] at ej
      exact absurd (Option.some.inj ej).symm d
    · rw [List.getElem?_set_ne (Ne.symm hj)] at ej
      obtain ⟨a, ea⟩ := S.live j u ej d
      exact ⟨a, (if_neg hj).trans ea⟩
  nhid := fun j a ej => S.nhid j a (Wd.kill_some ej).2
  hids := S.hids
/-- a list that is being made: nobody sees it -/
def Wd.hide (W : Wd) (p : Addr) (o : HO) : Wd := ⟨W.f, W.n, upd W.H p o, fun q => q = p ∨ W.hid q⟩
theorem Ext.hide {h : MH} (S : Sim K W h) {p : Addr} {o : HO} (hp : W.H p = none) : Ext W (W.hide p o) := ⟨Nat.le_refl _, fun _ _ => .inl rfl, fun q u s e => ⟨by
  show upd W.H p o q = some u
  rw [upd_ne (ne_of_none e hp)]
  exact e, s.1, fun z => z.elim (fun y => ne_of_none e hp y) s.2⟩, fun q u s e => ⟨by
  show upd W.H p o q = some u
  rw [upd_ne (ne_of_none e hp)]
  exact e, .inr s⟩⟩
theorem Sim.hide {h : MH} (S : Sim K W h) {p : Addr} {o : HO} (hp : W.H p = none) : Sim K (W.hide p o) h where
  n := S.n
  lt := S.lt
  inj := S.inj
  obj := fun l a e => by
    obtain ⟨u, e1, r⟩ := S.obj l a e
    refine ⟨u, e1, r.mono (Ext.hide S hp) ?_⟩
    show upd W.H p o a = W.H a
    obtain ⟨u2, q⟩ := r.has
    rw [upd_ne (ne_of_none q hp)]
  live := S.live
  nhid := fun l a e z => z.elim (fun y => (S.fresh hp).1 l (by rw [← y]; exact e)) (S.nhid l a e)
  hids := fun q hq e => by
    have e' : upd W.H p o q = none := e
    by_cases hz : q = p
    · rw [hz, upd_same] at e'
      cases e'
    · rw [upd_ne hz] at e'
      exact S.hids q (hq.elim (fun y => absurd y hz) id) e'
/-- it is written -/
theorem Ext.wrh {h : MH} {p : Addr} {o : HO} (hp : W.hid p) (S : Sim K W h) {W0 : Wd} (x : Ext W0 W) (h0 : W0.H p = none) : Ext W0 (W.wr p o) := ⟨x.le, x.agree, fun q u s e => ⟨by
  show upd W.H p o q = some u
  rw [upd_ne (ne_of_none e h0)]
  exact (x.frame q u s e).1, (x.frame q u s e).2⟩, fun q u s e => ⟨by
  show upd W.H p o q = some u
  rw [upd_ne (ne_of_none e h0)]
  exact (x.hidf q u s e).1, (x.hidf q u s e).2⟩⟩
theorem rd_wrh {p q : Addr} {o u : HO} (hp : W.hid p) (s : Stab W q) (e : Rd W.H q u) : Rd (W.wr p o).H q u := by
  have ne : q ≠ p := fun z => s.2 (by rw [z]; exact hp)
  rcases e with e | ⟨z, e⟩
  · exact .inl ((upd_ne ne).trans e)
  · exact .inr ⟨z, (upd_ne ne).trans e⟩
mutual
/-- what nobody sees may change -/
theorem RV.wrh {p : Addr} {o : HO} (hp : W.hid p) : ∀ {m : MV} {v : V}, RV K W m v → RV K (W.wr p o) m v
  | _, _, .non => .non
  | _, _, .bl b => .bl b
  | _, _, .int i => .int i
  | _, _, .str s => .str s
  | _, _, .ref lt e => .ref lt e
  | _, _, .tup s e r => .tup s ((upd_ne fun z => s.2 (by rw [z]; exact hp)).trans e) (RVs.wrh hp r)
  | _, _, .tupK e r => .tupK e (RVs.wrh hp r)
  | _, _, .fls s e r => .fls s ((upd_ne fun z => s.2 (by rw [z]; exact hp)).trans e) (RVs.wrh hp r)
  | _, _, .frz s e r => .frz s (rd_wrh hp s e) (RVs.wrh hp r)
  | _, _, .frzK e r => .frzK e (RVs.wrh hp r)
theorem RVs.wrh {p : Addr} {o : HO} (hp : W.hid p) : ∀ {ms : List MV} {vs : List V}, RVs K W ms vs → RVs K (W.wr p o) ms vs
  | _, _, .nil => .nil
  | _, _, .cons r t => .cons (RV.wrh hp r) (RVs.wrh hp t)
end
theorem RKV.wrh {κ : Type} {p : Addr} {o : HO} (hp : W.hid p) : ∀ {ms : List (κ × MV)} {vs : List (κ × V)}, RKV K W ms vs → RKV K (W.wr p o) ms vs
  | _, _, .nil => .nil
  | _, _, .cons r t => .cons (r.wrh hp) (RKV.wrh hp t)
theorem Sim.wrh {h : MH} {p : Addr} {o : HO} (hp : W.hid p) (S : Sim K W h) : Sim K (W.wr p o) h where
  n := S.n
  lt := S.lt
  inj := S.inj
  obj := fun l a e => by
    obtain ⟨u, e1, r⟩ := S.obj l a e
    have ne : a ≠ p := fun z => S.nhid l a e (by rw [z]; exact hp)
    have hH : (W.wr p o).H a = W.H a := upd_ne ne
    refine ⟨u, e1, ?_⟩
    cases u with
    | dead => exact r.elim
    | lst xs =>
      obtain ⟨vs, q, t⟩ := r
      exact ⟨vs, hH.trans q, t.wrh hp⟩
    | dK xs =>
      obtain ⟨vs, q, t⟩ := r
      exact ⟨vs, hH.trans q, t.wrh hp⟩
  live := S.live
  nhid := S.nhid
  hids := fun q hq e => by
    have e' : upd W.H p o q = none := e
    by_cases hz : q = p
    · rw [hz, upd_same] at e'
      cases e'
    · rw [upd_ne hz] at e'
      exact S.hids q hq e'
/-- it is shown: the world without it, into which it is laid -/
def Wd.bare (W : Wd) (p : Addr) : Wd := ⟨W.f, W.n, fun b => if b = p then none else W.H b, fun q => q ≠ p ∧ W.hid q⟩
theorem Wd.bare_upd {p : Addr} {o : HO} (e : W.H p = some o) : upd (W.bare p).H p o = W.H := by
  funext b
  by_cases hb : b = p
  · rw [hb, upd_same, e]
  · rw [upd_ne hb]
    exact if_neg hb
theorem Wd.bare_ne {p q : Addr} (h : q ≠ p) : (W.bare p).H q = W.H q := if_neg h
theorem rd_bare {p q : Addr} {u : HO} (h : q ≠ p) (e : Rd W.H q u) : Rd (W.bare p).H q u := by
  rcases e with e | ⟨z, e⟩
  · exact .inl ((Wd.bare_ne h).trans e)
  · exact .inr ⟨z, (Wd.bare_ne h).trans e⟩
mutual
theorem RV.bare {p : Addr} (hp : W.hid p) : ∀ {m : MV} {v : V}, RV K W m v → RV K (W.bare p) m v
  | _, _, .non => .non
  | _, _, .bl b => .bl b
  | _, _, .int i => .int i
  | _, _, .str s => .str s
  | _, _, .ref lt e => .ref lt e
  | _, _, .tup s e r => .tup ⟨s.1, fun z => s.2 z.2⟩ ((Wd.bare_ne fun z => s.2 (by rw [z]; exact hp)).trans e) (RVs.bare hp r)
  | _, _, .tupK e r => .tupK e (RVs.bare hp r)
  | _, _, .fls s e r => .fls ⟨s.1, fun z => s.2 z.2⟩ ((Wd.bare_ne fun z => s.2 (by rw [z]; exact hp)).trans e) (RVs.bare hp r)
  | _, _, .frz s e r => .frz ⟨s.1, fun z => s.2 z.2⟩ (rd_bare (fun z => s.2 (by rw [z]; exact hp)) e) (RVs.bare hp r)
  | _, _, .frzK e r => .frzK e (RVs.bare hp r)
theorem RVs.bare {p : Addr} (hp : W.hid p) : ∀ {ms : List MV} {vs : List V}, RVs K W ms vs → RVs K (W.bare p) ms vs
  | _, _, .nil => .nil
  | _, _, .cons r t => .cons (RV.bare hp r) (RVs.bare hp t)
end
theorem RKV.bare {κ : Type} {p : Addr} (hp : W.hid p) : ∀ {ms : List (κ × MV)} {vs : List (κ × V)}, RKV K W ms vs → RKV K (W.bare p) ms vs
  | _, _, .nil => .nil
  | _, _, .cons r t => .cons (r.bare hp) (RKV.bare hp t)
theorem Sim.bare {h : MH} {p : Addr} (hp : W.hid p) (S : Sim K W h) : Sim K (W.bare p) h where
  n := S.n
  lt := S.lt
  inj := S.inj
  obj := fun l a e => by
    obtain ⟨u, e1, r⟩ := S.obj l a e
    have ne : a ≠ p := fun z => S.nhid l a e (by rw [z]; exact hp)
    have hH : (W.bare p).H a = W.H a := Wd.bare_ne ne
    refine ⟨u, e1, ?_⟩
    cases u with
    | dead => exact r.elim
    | lst xs =>
      obtain ⟨vs, q, t⟩ := r
      exact ⟨vs, hH.trans q, t.bare hp⟩
    | dK xs =>
      obtain ⟨vs, q, t⟩ := r
      exact ⟨vs, hH.trans q, t.bare hp⟩
  live := S.live
  nhid := fun l a e z => S.nhid l a e z.2
  hids := fun q hq e => by
    rw [Wd.bare_ne hq.1] at e
    exact S.hids q hq.2 e
theorem Ext.bare {p : Addr} {W0 : Wd} (x : Ext W0 W) (h0 : W0.H p = none) : Ext W0 (W.bare p) := ⟨x.le, x.agree, fun q u s e => by
  have hq : q ≠ p := ne_of_none e h0
  obtain ⟨a, b⟩ := x.frame q u s e
  exact ⟨(Wd.bare_ne hq).trans a, b.1, fun z => b.2 z.2⟩, fun q u s e => by
  have hq : q ≠ p := ne_of_none e h0
  obtain ⟨a, b⟩ := x.hidf q u s e
  exact ⟨(Wd.bare_ne hq).trans a, hq, b⟩⟩
/-- where a place of the mirror's heap stands -/
theorem Sim.at {h : MH} (S : Sim K W h) {l : Nat} {o : MO} {v : V} (e : h[l]? = some o) (d : o ≠ .dead) (r : RV K W (.ref l) v) : ∃ a, v = .ref a ∧ W.f l = some a ∧ RO K W o a := by
  obtain ⟨a, ea⟩ := S.live l o e d
  obtain ⟨u, e1, ro⟩ := S.obj l a ea
  rw [e] at e1
  cases e1
  cases r with
  | ref lt q => exact ⟨a, by rw [q a ea], ea, ro⟩
theorem Sim.lstAt {h : MH} (S : Sim K W h) {l : Nat} {xs : List MV} {v : V} (e : h[l]? = some (.lst xs)) (r : RV K W (.ref l) v) : ∃ a vs, v = .ref a ∧ W.f l = some a ∧ W.H a = some (.lst vs) ∧ RVs K W xs vs := by
  obtain ⟨a, e1, e2, vs, e3, r3⟩ := S.at e (by intro z; cases z) r
  exact ⟨a, vs, e1, e2, e3, r3⟩
end
/-! ### slots -/
inductive RS (K : PySem.W.Frag) (W : Wd) : MS → St → Prop
  | nil : RS K W [] []
  | no {o : Option V} {a : MS} {b : St} (t : RS K W a b) : RS K W (none :: a) (o :: b)
  | yes {x : MV} {v : V} {a : MS} {b : St} (r : RV K W x v) (t : RS K W a b) : RS K W (some x :: a) (some v :: b)
section
variable {K : PySem.W.Frag} {W W' : Wd}
theorem RS.mono (x : Ext W W') : ∀ {a : MS} {b : St}, RS K W a b → RS K W' a b
  | _, _, .nil => .nil
  | _, _, .no t => .no (RS.mono x t)
  | _, _, .yes r t => .yes (r.mono x) (RS.mono x t)
theorem RS.get : ∀ {a : MS} {b : St} {i : Nat} {x : MV}, RS K W a b → a[i]? = some (some x) → ∃ v, b[i]? = some (some v) ∧ RV K W x v
  | _, _, _, _, .nil, e => by simp at e
  | _, _, 0, _, .no _, e => by simp at e
  | _, _, 0, _, .yes r _, e => by
    simp at e
    subst e
    exact ⟨_, rfl, r⟩
  | _, _, i + 1, _, .no t, e => by
    obtain ⟨v, p, q⟩ := RS.get (i := i) t (by simpa using e)
    exact ⟨v, by simpa using p, q⟩
  | _, _, i + 1, _, .yes _ t, e => by
    obtain ⟨v, p, q⟩ := RS.get (i := i) t (by simpa using e)
    exact ⟨v, by simpa using p, q⟩
theorem RS.set {x : MV} {v : V} (r : RV K W x v) : ∀ {a : MS} {b : St} (i : Nat), RS K W a b → RS K W (a.set i (some x)) (b.set i (some v))
  | _, _, _, .nil => .nil
  | _, _, 0, .no t => .yes r t
  | _, _, 0, .yes _ t => .yes r t
  | _, _, i + 1, .no t => .no (RS.set r i t)
  | _, _, i + 1, .yes q t => .yes q (RS.set r i t)
theorem RS.clr : ∀ {a : MS} {b : St} (i : Nat) (o : Option V), RS K W a b → RS K W (a.set i none) (b.set i o)
  | _, _, _, _, .nil => .nil
  | _, _, 0, _, .no t => .no t
  | _, _, 0, _, .yes _ t => .no t
  | _, _, i + 1, o, .no t => .no (RS.clr i o t)
  | _, _, i + 1, o, .yes q t => .yes q (RS.clr i o t)
def wipeM (s : MS) : List Nat → MS
  | [] => s
  | v :: vs => (wipeM s vs).set v none
theorem RS.wipe {a : MS} {b : St} (t : RS K W a b) : ∀ vs : List Nat, RS K W (wipeM a vs) (L2.wipe b vs)
  | [] => t
  | v :: vs => (RS.wipe t vs).clr v none
theorem RS.start : ∀ {xs : List MV} {vs : List V}, RVs K W xs vs → ∀ k, RS K W (xs.map some ++ List.replicate k none) (vs.map some ++ List.replicate k none)
  | _, _, .nil, 0 => .nil
  | _, _, .nil, k + 1 => .no (RS.start .nil k)
  | _, _, .cons r t, k => .yes r (RS.start t k)
end
end Mi
set_option maxHeartbeats 2000000
/-! Mi: what a reading owes to a mirror; expressions. -/
namespace Mi
open PySem L2
/-- where exceptions go: the class names' values, the wish -/
structure XC where
  mg : Str → Option Value
  E : XK
inductive RF (K : PySem.W.Frag) (W : Wd) : List (Str × MV) → List (Str × V) → Prop
  | nil : RF K W [] []
  | cons {f : Str} {x : MV} {v : V} {xs : List (Str × MV)} {vs : List (Str × V)} (r : RV K W x v) (t : RF K W xs vs) : RF K W ((f, x) :: xs) ((f, v) :: vs)
def XR (K : PySem.W.Frag) (c : XC) (W : Wd) (e : MX) (C : Value) (d : Option Addr) : Prop :=
  c.mg e.cls = some C ∧ ∃ fs, RF K W e.flds fs ∧ ((d = none ∧ fs = []) ∨ ∃ a, d = some a ∧ Stab W a ∧ W.H a = some (.xd fs))
def PX (K : PySem.W.Frag) (c : XC) (W : Wd) (e : MX) (h : MH) : Prop := ∀ W' C d, Ext W W' → Sim K W' h → XR K c W' e C d → c.E C d W'.H
/-- what is owed behind a run of the mirror that gives r; C: what is wanted of the answer -/
def Pst {α : Type} (K : PySem.W.Frag) (c : XC) (C : Wd → α → Prop) (W : Wd) (r : Res α) : Prop := match r with
  | none => False
  | some (.ok a h) => ∀ W', Ext W W' → Sim K W' h → C W' a
  | some (.ex e h) => PX K c W e h
theorem PX.shift {K : PySem.W.Frag} {c : XC} {W W' : Wd} {e : MX} {h : MH} (x : Ext W W') (p : PX K c W e h) : PX K c W' e h := fun W2 C d x2 s q => p W2 C d (x.trans x2) s q
section
variable {K : PySem.W.Frag} {c : XC} {α β : Type}
theorem Pst.shift {C : Wd → α → Prop} {W W' : Wd} {r : Res α} (x : Ext W W') (p : Pst K c C W r) : Pst K c C W' r := by
  match r, p with
  | some (.ok a h), p => exact fun W2 x2 s => p W2 (x.trans x2) s
  | some (.ex e h), p => exact PX.shift x p
theorem Pst.imp {C C' : Wd → α → Prop} {W : Wd} {r : Res α} (p : Pst K c C W r) (i : ∀ W' a, Ext W W' → C W' a → C' W' a) : Pst K c C' W r := by
  match r, p with
  | some (.ok a h), p => exact fun W2 x2 s => i W2 a x2 (p W2 x2 s)
  | some (.ex e h), p => exact p
/-- a first part, then the rest -/
theorem Pst.bnd {C1 : Wd → α → Prop} {C2 : Wd → β → Prop} {W : Wd} {r : Res α} {k : α → MH → Res β} (p : Pst K c C2 W (r.bnd k))
    (i : ∀ W1 h1 a, Ext W W1 → Sim K W1 h1 → Pst K c C2 W1 (k a h1) → C1 W1 a) : Pst K c C1 W r := by
  match r, p with
  | some (.ok a h), p => exact fun W2 x2 s => i W2 h a x2 s (Pst.shift x2 p)
  | some (.ex e h), p => exact p
end
/-! ### the readings that a mirror gives -/
def CV (K : PySem.W.Frag) (Q : VK) (W : Wd) (x : MV) : Prop := ∀ v, RV K W x v → Q v W.H
def CA (K : PySem.W.Frag) (Q : List V → Hp → Prop) (W : Wd) (xs : List MV) : Prop := ∀ vs, RVs K W xs vs → Q vs W.H
def CB (Q : Bool → Hp → Prop) (W : Wd) (b : Bool) : Prop := Q b W.H
def CO (Q : Option Int → Hp → Prop) (W : Wd) (o : Option Int) : Prop := Q o W.H
/-- a new list: it is not laid yet -/
def CL (K : PySem.W.Frag) (Q : VK) (W : Wd) (xs : List MV) : Prop := ∀ vs p, RVs K W xs vs → W.H p = none → Q (.ref p) (upd W.H p (.lst vs))
def tG {α β : Type} (K : PySem.W.Frag) (c : XC) (C : (β → Hp → Prop) → Wd → α → Prop) (m : MM α) : St → Hp → (β → Hp → Prop) → Prop :=
  fun σ H Q => ∃ W h s, W.H = H ∧ Sim K W h ∧ RS K W s σ ∧ Pst K c (C Q) W (m s h)
abbrev tM (K : PySem.W.Frag) (c : XC) (m : ME) : TE := tG K c (CV K) m
abbrev tMA (K : PySem.W.Frag) (c : XC) (m : MM (List MV)) : TA := tG K c (CA K) m
abbrev tMB (K : PySem.W.Frag) (c : XC) (m : MM Bool) : TT := tG K c CB m
abbrev tMO (K : PySem.W.Frag) (c : XC) (m : MM (Option Int)) : TO := tG K c CO m
abbrev tML (K : PySem.W.Frag) (c : XC) (m : MM (List MV)) : TE := tG K c (CL K) m
/-- an expression's mirror; of a test, of arguments, of an expression that gives a new list -/
abbrev EM (X : Cx) (c : XC) (e : Expr) (m : ME) : Prop := PE X e (tM X.K c m)
abbrev BM (X : Cx) (c : XC) (e : Expr) (m : MM Bool) : Prop := PT X e (tMB X.K c m)
abbrev AM (X : Cx) (c : XC) (es : List Expr) (m : MM (List MV)) : Prop := PA X es (tMA X.K c m)
abbrev LM (X : Cx) (c : XC) (e : Expr) (m : MM (List MV)) : Prop := PE X e (tML X.K c m)
theorem pe_wk {X : Cx} {e : Expr} {t t' : TE} (h : PE X e t) (w : ∀ σ H Q, t' σ H Q → t σ H Q) : PE X e t' := ⟨fun pins s σ H Q I q => h.run pins s σ H Q I (w _ _ _ q)⟩
theorem pt_wk {X : Cx} {e : Expr} {t t' : TT} (h : PT X e t) (w : ∀ σ H Q, t' σ H Q → t σ H Q) : PT X e t' := ⟨fun pins s σ H Q I q => h.run pins s σ H Q I (w _ _ _ q)⟩
theorem pw_wk {X : Cx} {e : Expr} {t t' : TT} (h : PW X e t) (w : ∀ σ H Q, t' σ H Q → t σ H Q) : PW X e t' := ⟨fun wh pins s σ H Q I q => h.run wh pins s σ H Q I (w _ _ _ q)⟩
theorem pa_wk {X : Cx} {e : List Expr} {t t' : TA} (h : PA X e t) (w : ∀ σ H Q, t' σ H Q → t σ H Q) : PA X e t' := ⟨fun po pins s σ H Q I q => h.run po pins s σ H Q I (w _ _ _ q)⟩
theorem po_wk {X : Cx} {e : Option Expr} {t t' : TO} (h : PO X e t) (w : ∀ σ H Q, t' σ H Q → t σ H Q) : PO X e t' := ⟨fun pins s σ H Q I q => h.run pins s σ H Q I (w _ _ _ q)⟩
/-! ### the mirror's words -/
abbrev ok {α : Type} (a : α) (h : MH) : Res α := some (.ok a h)
theorem ok_some {α : Type} (a : α) (h : MH) : ok a h = some (.ok a h) := rfl
@[simp] theorem ok_inj {α : Type} {a b : α} {h h' : MH} : ok a h = ok b h' ↔ a = b ∧ h = h' := ⟨fun e => by
  cases e
  exact ⟨rfl, rfl⟩, fun ⟨e1, e2⟩ => by rw [e1, e2]⟩
@[simp] theorem ok_ne {α : Type} {a : α} {h : MH} : ¬ (ok a h = none) := fun e => by cases e
theorem bnd_ok {α β : Type} {a : α} {h : MH} {k : α → MH → Res β} : (ok a h).bnd k = k a h := rfl
theorem bnd_none {α β : Type} {k : α → MH → Res β} : Res.bnd none k = none := rfl
@[simp ↓] def may {α : Type} (o : Option α) (h : MH) : Res α := match o with
  | some a => ok a h
  | none => none
@[simp ↓] def slot : MS → Nat → Option MV
  | [], _ => none
  | x :: _, 0 => x
  | _ :: r, n + 1 => slot r n
theorem slot_eq : ∀ (s : MS) (i : Nat) {x : MV}, slot s i = some x → s[i]? = some (some x)
  | [], _, _, e => by cases e
  | o :: _, 0, x, e => by
    have e' : o = some x := e
    rw [e']
    rfl
  | _ :: r, n + 1, x, e => by
    have := slot_eq r n (x := x) e
    simpa using this
@[simp ↓] def varM (i : Nat) : ME := fun s h => may (slot s i) h
@[simp ↓] def cM (x : MV) : ME := fun _ h => ok x h
@[simp ↓] def opM (f : MV → MV → MH → Res MV) (a b : ME) : ME := fun s h => (a s h).bnd fun x h1 => (b s h1).bnd fun y h2 => f x y h2
@[simp ↓] def unM (f : MV → MH → Res MV) (a : ME) : ME := fun s h => (a s h).bnd fun x h1 => f x h1
@[simp ↓] def nilA : MM (List MV) := fun _ h => ok [] h
@[simp ↓] def consA (a : ME) (r : MM (List MV)) : MM (List MV) := fun s h => (a s h).bnd fun x h1 => (r s h1).bnd fun xs h2 => ok (x :: xs) h2
def lim : Nat := 1000000
theorem lim_line {n : Nat} (h : n ≤ lim) : n ≤ sizeLine := Nat.le_trans h (by rw [sizeLine_eq]; decide)
@[simp ↓] def tupM (a : MM (List MV)) : ME := fun s h => (a s h).bnd fun xs h1 => if xs.length ≤ lim then ok (.tup xs) h1 else none
@[simp ↓] def lstM (a : MM (List MV)) : MM (List MV) := fun s h => (a s h).bnd fun xs h1 => if xs.length ≤ lim then ok xs h1 else none
@[simp ↓] def flsM (m : MM (List MV)) : ME := fun s h => (m s h).bnd fun xs h1 => ok (.fls xs) h1
@[simp ↓] def refM (m : MM (List MV)) : ME := fun s h => (m s h).bnd fun xs h1 => ok (.ref h1.length) (h1 ++ [.lst xs])
/-- a list's items, a tuple's -/
@[simp ↓] def lstOf (h : MH) : MV → Option (List MV)
  | .fls xs => some xs
  | .frz xs => some xs
  | .ref l => match h[l]? with
    | some (.lst xs) => some xs
    | _ => none
  | _ => none
@[simp ↓] def seqOf (h : MH) : MV → Option (List MV)
  | .tup xs => some xs
  | .ktp xs => some xs
  | x => lstOf h x
section
variable {X : Cx} {c : XC} {e a b : Expr} {es : List Expr} {pos : Pos} {K : PySem.W.Frag} {W : Wd}
theorem em_var {i : Nat} (h : PE X e (tVar i)) : EM X c e (varM i) := pe_wk h fun σ H Q ⟨W, h, s, e, S, rs, p⟩ => by
  subst e
  cases q : slot s i with
  | none =>
    unfold varM may at p
    rw [q] at p
    exact p.elim
  | some x =>
    unfold varM may at p
    rw [q] at p
    obtain ⟨v, hv, r⟩ := rs.get (slot_eq s i q)
    exact ⟨v, hv, p W (Ext.refl W) S v r⟩
theorem em_c {x : MV} {v : V} (h : PE X e (tC v)) (r : ∀ W, RV X.K W x v) : EM X c e (cM x) := pe_wk h fun σ H Q ⟨W, h, s, e, S, rs, p⟩ => by
  subst e
  exact p W (Ext.refl W) S v (r W)
theorem em_int {i j} : EM X c (.Constant (.int i) j pos) (cM (.int i)) := em_c pe_int fun _ => .int i
theorem em_bl {b j} : EM X c (.Constant (.bool b) j pos) (cM (.bl b)) := em_c pe_bl fun _ => .bl b
theorem em_non {j} : EM X c (.Constant .none j pos) (cM .non) := em_c pe_non fun _ => .non
theorem em_str {x j} : EM X c (.Constant (.str x) j pos) (cM (.str x)) := em_c pe_str fun _ => .str x
theorem am_nil : AM X c [] nilA := pa_wk pa_nil fun σ H Q ⟨W, h, s, e, S, rs, p⟩ => by
  subst e
  exact p W (Ext.refl W) S [] .nil
theorem am_cons {ma : ME} {mr : MM (List MV)} (ha : EM X c e ma) (hr : AM X c es mr) (hs : starEach (e :: es) X.env = (false, eval e X.env) :: starEach es X.env := by rfl) : AM X c (e :: es) (consA ma mr) :=
  pa_wk (pa_cons ha hr hs) fun σ H Q ⟨W, h, s, e, S, rs, p⟩ => by
    subst e
    refine ⟨W, h, s, rfl, S, rs, p.bnd fun W1 h1 x x1 S1 p1 v r1 => ?_⟩
    exact ⟨W1, h1, s, rfl, S1, rs.mono x1, p1.bnd fun W2 h2 xs x2 S2 p2 vs r2 => p2 W2 (Ext.refl _) S2 _ (.cons (r1.mono x2) r2)⟩
/-- what a two-place operation's rule owes to the mirror's f -/
def OpM (K : PySem.W.Frag) (c : XC) (r : R2) (f : MV → MV → MH → Res MV) : Prop :=
  ∀ (W : Wd) (h : MH) (x y : MV) (u v : V) (Q : VK), Sim K W h → RV K W x u → RV K W y v → Pst K c (CV K Q) W (f x y h) → r u v W.H Q
def UnM (K : PySem.W.Frag) (c : XC) (r : V → Hp → VK → Prop) (f : MV → MH → Res MV) : Prop :=
  ∀ (W : Wd) (h : MH) (x : MV) (u : V) (Q : VK), Sim K W h → RV K W x u → Pst K c (CV K Q) W (f x h) → r u W.H Q
theorem tOp_of {r : R2} {f : MV → MV → MH → Res MV} {ma mb : ME} (ho : OpM K c r f) {σ : St} {H : Hp} {Q : VK} (q : tM K c (opM f ma mb) σ H Q) : tOp r (tM K c ma) (tM K c mb) σ H Q := by
  obtain ⟨W, h, s, e, S, rs, p⟩ := q
  subst e
  refine ⟨W, h, s, rfl, S, rs, p.bnd fun W1 h1 x x1 S1 p1 u r1 => ?_⟩
  exact ⟨W1, h1, s, rfl, S1, rs.mono x1, p1.bnd fun W2 h2 y x2 S2 p2 v r2 => ho W2 h2 x y u v Q S2 (r1.mono x2) r2 p2⟩
theorem em_op {op : Operator} {r : R2} {f : MV → MV → MH → Res MV} {ma mb : ME} (hr : OpR X (binaryOp op) r) (ho : OpM X.K c r f) (ha : EM X c a ma) (hb : EM X c b mb) : EM X c (.BinOp a op b pos) (opM f ma mb) :=
  pe_wk (pe_op hr ha hb) fun σ H Q q => tOp_of ho q
theorem em_cmp {op : CmpOp} {r : R2} {f : MV → MV → MH → Res MV} {ma mb : ME} (hr : OpR X (compareOp op) r) (ho : OpM X.K c r f) (ha : EM X c a ma) (hb : EM X c b mb) (hm : behindInMarks op b = false) : EM X c (.Compare a [op] [b] pos) (opM f ma mb) :=
  pe_wk (pe_cmpR hr ha hb hm) fun σ H Q q => tOp_of ho q
theorem em_ix {r : R2} {f : MV → MV → MH → Res MV} {ma mb : ME} (hr : IxR X r) (ho : OpM X.K c r f) (ha : EM X c a ma) (hb : EM X c b mb) (hs : PlainIx b) : EM X c (.Subscript a b pos) (opM f ma mb) :=
  pe_wk (pe_ix hr ha hb hs) fun σ H Q q => tOp_of ho q
theorem em_un {op : UnaryOp} {r : V → Hp → VK → Prop} {f : MV → MH → Res MV} {ma : ME} (hr : UnR X (unaryOp op) r) (ho : UnM X.K c r f) (ha : EM X c a ma) : EM X c (.UnaryOp op a pos) (unM f ma) :=
  pe_wk (pe_un hr ha) fun σ H Q ⟨W, h, s, e, S, rs, p⟩ => by
    subst e
    exact ⟨W, h, s, rfl, S, rs, p.bnd fun W1 h1 x x1 S1 p1 u r1 => ho W1 h1 x u Q S1 r1 p1⟩
/-! displays -/
theorem em_tup {k : Nat} {m : MM (List MV)} (h : AM X c es m) : EM X c (.Tuple es k pos) (tupM m) := pe_wk (pe_tup h) fun σ H Q ⟨W, h, s, e, S, rs, p⟩ => by
  subst e
  refine ⟨W, h, s, rfl, S, rs, p.bnd fun W1 h1 xs x1 S1 p1 vs r1 => ?_⟩
  by_cases hl : xs.length ≤ lim
  · rw [if_pos hl] at p1
    refine ⟨lim_line (by rw [← r1.length]; exact hl), fun q hq => ?_⟩
    exact p1 (W1.put q (.tup vs)) (Ext.put S1 hq) (S1.put hq) (.ref q) (.tup (S1.fresh hq) upd_same (r1.mono (Ext.put S1 hq)))
  · rw [if_neg hl] at p1
    exact p1.elim
theorem lm_lst {m : MM (List MV)} (h : AM X c es m) : LM X c (.List es pos) (lstM m) := pe_wk (pe_lst h) fun σ H Q ⟨W, h, s, e, S, rs, p⟩ => by
  subst e
  refine ⟨W, h, s, rfl, S, rs, p.bnd fun W1 h1 xs x1 S1 p1 vs r1 => ?_⟩
  by_cases hl : xs.length ≤ lim
  · rw [if_pos hl] at p1
    exact ⟨lim_line (by rw [← r1.length]; exact hl), fun q hq => p1 W1 (Ext.refl _) S1 vs q r1 hq⟩
  · rw [if_neg hl] at p1
    exact p1.elim
/-- a new list that stands still from now on; one that is written -/
theorem fls_of {m : MM (List MV)} {σ : St} {H : Hp} {Q : VK} (q : tM K c (flsM m) σ H Q) : tML K c m σ H Q := by
  obtain ⟨W, h, s, e, S, rs, p⟩ := q
  subst e
  refine ⟨W, h, s, rfl, S, rs, p.bnd fun W1 h1 xs x1 S1 p1 vs q r1 hq => ?_⟩
  exact p1 (W1.put q (.lst vs)) (Ext.put S1 hq) (S1.put hq) (.ref q) (.fls (S1.fresh hq) upd_same (r1.mono (Ext.put S1 hq)))
theorem ref_of {m : MM (List MV)} {σ : St} {H : Hp} {Q : VK} (q : tM K c (refM m) σ H Q) : tML K c m σ H Q := by
  obtain ⟨W, h, s, e, S, rs, p⟩ := q
  subst e
  refine ⟨W, h, s, rfl, S, rs, p.bnd fun W1 h1 xs x1 S1 p1 vs q r1 hq => ?_⟩
  refine p1 (W1.add q (.lst vs)) (Ext.add S1 hq) (S1.add hq ⟨vs, upd_same, r1.mono (Ext.add S1 hq)⟩) (.ref q) (.ref ?_ fun b hb => ?_)
  · show h1.length < W1.n + 1
    rw [S1.n]
    exact Nat.lt_succ_self _
  · have hb' : (if h1.length = W1.n then some q else W1.f h1.length) = some b := hb
    rw [if_pos S1.n.symm] at hb'
    exact (Option.some.inj hb').symm
theorem em_fls {m : MM (List MV)} (h : LM X c e m) : EM X c e (flsM m) := pe_wk h fun _ _ _ q => fls_of q
theorem em_ref {m : MM (List MV)} (h : LM X c e m) : EM X c e (refM m) := pe_wk h fun _ _ _ q => ref_of q
/-! a list, a tuple as it is read -/
theorem lst_sq {h : MH} {x : MV} {v : V} {xs : List MV} (S : Sim K W h) (r : RV K W x v) (e : lstOf h x = some xs) : ∃ p vs, v = .ref p ∧ SqL K W.H p vs ∧ RVs K W xs vs := by
  cases r with
  | fls s q t =>
    cases e
    exact ⟨_, _, rfl, .inl (.inl q), t⟩
  | frz s q t =>
    cases e
    exact ⟨_, _, rfl, .inl q, t⟩
  | frzK q t =>
    cases e
    exact ⟨_, _, rfl, q _, t⟩
  | @ref l a0 lt q =>
    have e' : (match h[l]? with | some (.lst xs) => some xs | _ => none) = some xs := e
    cases hl : h[l]? with
    | none =>
      rw [hl] at e'
      cases e'
    | some o =>
      rw [hl] at e'
      cases o with
      | lst ys =>
        cases e'
        obtain ⟨a, vs, e1, e2, e3, r3⟩ := S.lstAt hl (.ref lt q)
        exact ⟨a, vs, e1, .inl (.inl e3), r3⟩
      | _ => cases e'
  | _ => cases e
theorem tup_sq {x : List MV} {v : V} (r : RV K W (.tup x) v) : ∃ p vs, v = .ref p ∧ SqT K W.H p vs ∧ RVs K W x vs := by
  cases r with
  | tup s q t => exact ⟨_, _, rfl, .inl (.inl q), t⟩
theorem ktp_sq {x : List MV} {v : V} (r : RV K W (.ktp x) v) : ∃ p vs, v = .ref p ∧ SqT K W.H p vs ∧ RVs K W x vs := by
  cases r with
  | tupK q t => exact ⟨_, _, rfl, q _, t⟩
theorem seq_sq {h : MH} {x : MV} {v : V} {xs : List MV} (S : Sim K W h) (r : RV K W x v) (e : seqOf h x = some xs) : ∃ p vs, v = .ref p ∧ (SqL K W.H p vs ∨ SqT K W.H p vs) ∧ RVs K W xs vs := by
  cases x with
  | tup ys =>
    cases e
    obtain ⟨p, vs, a, b, d⟩ := tup_sq r
    exact ⟨p, vs, a, .inr b, d⟩
  | ktp ys =>
    cases e
    obtain ⟨p, vs, a, b, d⟩ := ktp_sq r
    exact ⟨p, vs, a, .inr b, d⟩
  | _ =>
    obtain ⟨p, vs, a, b, d⟩ := lst_sq S r e
    exact ⟨p, vs, a, .inl b, d⟩
end
end Mi
set_option maxHeartbeats 2000000
/-! Mi: operations. -/
namespace Mi
open PySem L2
/-! ### operations by values -/
def mulOk (i j : Int) : Prop := (-18446744073709551616 < i ∧ i < 18446744073709551616) ∨ (-18446744073709551616 < j ∧ j < 18446744073709551616)
/-- by choice: the kernel shall not reckon with the great numbers in it -/
noncomputable instance (i j : Int) : Decidable (mulOk i j) := Classical.propDecidable _
@[simp ↓] def addF (x y : MV) (h : MH) : Res MV := match x, y with
  | .int i, .int j => ok (.int (i + j)) h
  | .str i, .str j => if i.length + j.length ≤ lim then ok (.str (i ++ j)) h else none
  | .tup i, .tup j => if i.length + j.length ≤ lim then ok (.tup (i ++ j)) h else none
  | _, _ => none
@[simp ↓] def subF (x y : MV) (h : MH) : Res MV := match x, y with
  | .int i, .int j => ok (.int (i - j)) h
  | _, _ => none
@[simp ↓] noncomputable def mulF (x y : MV) (h : MH) : Res MV := match x, y with
  | .int i, .int j => if mulOk i j then ok (.int (i * j)) h else none
  | _, _ => none
@[simp ↓] def divF (x y : MV) (h : MH) : Res MV := match x, y with
  | .int i, .int j => if 0 < j ∧ j < 1073741824 then ok (.int (i / j)) h else none
  | _, _ => none
@[simp ↓] def modF (x y : MV) (h : MH) : Res MV := match x, y with
  | .int i, .int j => if 0 < j then ok (.int (i % j)) h else none
  | _, _ => none
@[simp ↓] def andF (x y : MV) (h : MH) : Res MV := match x, y with
  | .int i, .int j => ok (.int (Builtin.bitAnd i j)) h
  | _, _ => none
@[simp ↓] def orF (x y : MV) (h : MH) : Res MV := match x, y with
  | .int i, .int j => ok (.int (Builtin.bitOr i j)) h
  | _, _ => none
@[simp ↓] def xorF (x y : MV) (h : MH) : Res MV := match x, y with
  | .int i, .int j => ok (.int (Builtin.bitXor i j)) h
  | _, _ => none
def powOk (i j : Int) : Prop := 0 ≤ j ∧ j ≤ 1000000 ∧ i.natAbs < 18446744073709551616
instance (i j : Int) : Decidable (powOk i j) := by unfold powOk; exact inferInstance
@[simp ↓] def powF (x y : MV) (h : MH) : Res MV := match x, y with
  | .int i, .int j => if powOk i j then ok (.int (i ^ j.toNat)) h else none
  | _, _ => none
@[simp ↓] def shlF (x y : MV) (h : MH) : Res MV := match x, y with
  | .int i, .int j => if powOk i j then ok (.int (i * 2 ^ j.toNat)) h else none
  | _, _ => none
@[simp ↓] def shrF (x y : MV) (h : MH) : Res MV := match x, y with
  | .int i, .int j => if 0 ≤ j then ok (.int (i / 2 ^ j.toNat)) h else none
  | _, _ => none
@[simp ↓] def negF (x : MV) (h : MH) : Res MV := match x with
  | .int i => ok (.int (-i)) h
  | _ => none
@[simp ↓] def invF (x : MV) (h : MH) : Res MV := match x with
  | .int i => ok (.int (Builtin.bitNot i)) h
  | _ => none
section
variable {X : Cx} {c : XC} {K : PySem.W.Frag}
theorem rv_int {W : Wd} {i : Int} {v : V} (r : RV K W (.int i) v) : v = .int i := by
  cases r
  rfl
theorem rv_bl {W : Wd} {i : Bool} {v : V} (r : RV K W (.bl i) v) : v = .bl i := by
  cases r
  rfl
theorem rv_str {W : Wd} {i : Str} {v : V} (r : RV K W (.str i) v) : v = .str i := by
  cases r
  rfl
theorem rv_non {W : Wd} {v : V} (r : RV K W .non v) : v = .non := by
  cases r
  rfl
/-- the answer comes at once -/
theorem Pst.now {α : Type} {C : Wd → α → Prop} {W : Wd} {h : MH} {a : α} (p : Pst K c C W (ok a h)) (S : Sim K W h) : C W a := p W (Ext.refl W) S
theorem opm_I0 {f : MV → MV → MH → Res MV} {g : Int → Int → Int} (hf : ∀ x y h, (∃ i j, x = .int i ∧ y = .int j ∧ f x y h = ok (.int (g i j)) h) ∨ f x y h = none) : OpM K c (rI0 fun i j => .int (g i j)) f :=
  fun W h x y u v Q S r1 r2 p => by
    rcases hf x y h with ⟨i, j, e1, e2, e⟩ | e
    · subst e1 e2
      rw [e] at p
      exact ⟨i, j, rv_int r1, rv_int r2, p.now S _ (.int _)⟩
    · rw [e] at p
      exact p.elim
theorem opm_I {C : Int → Int → Prop} {f : MV → MV → MH → Res MV} {g : Int → Int → Int} (hf : ∀ x y h, (∃ i j, x = .int i ∧ y = .int j ∧ C i j ∧ f x y h = ok (.int (g i j)) h) ∨ f x y h = none) : OpM K c (rI C fun i j => .int (g i j)) f :=
  fun W h x y u v Q S r1 r2 p => by
    rcases hf x y h with ⟨i, j, e1, e2, hc, e⟩ | e
    · subst e1 e2
      rw [e] at p
      exact ⟨i, j, rv_int r1, rv_int r2, hc, p.now S _ (.int _)⟩
    · rw [e] at p
      exact p.elim
theorem opm_sub : OpM K c (rI0 fun i j => .int (i - j)) subF := opm_I0 fun x y h => by
  cases x <;> cases y <;> first | exact .inr rfl | exact .inl ⟨_, _, rfl, rfl, rfl⟩
theorem opm_and : OpM K c (rI0 fun i j => .int (Builtin.bitAnd i j)) andF := opm_I0 fun x y h => by
  cases x <;> cases y <;> first | exact .inr rfl | exact .inl ⟨_, _, rfl, rfl, rfl⟩
theorem opm_or : OpM K c (rI0 fun i j => .int (Builtin.bitOr i j)) orF := opm_I0 fun x y h => by
  cases x <;> cases y <;> first | exact .inr rfl | exact .inl ⟨_, _, rfl, rfl, rfl⟩
theorem opm_xor : OpM K c (rI0 fun i j => .int (Builtin.bitXor i j)) xorF := opm_I0 fun x y h => by
  cases x <;> cases y <;> first | exact .inr rfl | exact .inl ⟨_, _, rfl, rfl, rfl⟩
theorem ite_or {α : Type} {P : Prop} [Decidable P] {a b : Option α} {R : Option α → Prop} (h1 : P → R a) (h2 : ¬ P → R b) : R (if P then a else b) := by
  by_cases h : P
  · rw [if_pos h]
    exact h1 h
  · rw [if_neg h]
    exact h2 h
theorem opm_mul : OpM K c (rI CMul fun i j => .int (i * j)) mulF := opm_I fun x y h => by
  cases x <;> cases y <;> first | exact .inr rfl | skip
  rename_i i j
  by_cases q : mulOk i j
  · exact .inl ⟨i, j, rfl, rfl, q, if_pos q⟩
  · exact .inr (if_neg q)
theorem opm_div : OpM K c (rI CDiv fun i j => .int (i / j)) divF := opm_I fun x y h => by
  cases x <;> cases y <;> first | exact .inr rfl | skip
  rename_i i j
  by_cases q : 0 < j ∧ j < 1073741824
  · exact .inl ⟨i, j, rfl, rfl, q, if_pos q⟩
  · exact .inr (if_neg q)
theorem opm_mod : OpM K c (rI (fun _ j => 0 < j) fun i j => .int (i % j)) modF := opm_I fun x y h => by
  cases x <;> cases y <;> first | exact .inr rfl | skip
  rename_i i j
  by_cases q : 0 < j
  · exact .inl ⟨i, j, rfl, rfl, q, if_pos q⟩
  · exact .inr (if_neg q)
theorem powOk_is {i j : Int} (h : powOk i j) : CPow i j := ⟨h.1, h.2.1, h.2.2⟩
theorem opm_pow : OpM K c (rI CPow fun i j => .int (i ^ j.toNat)) powF := opm_I fun x y h => by
  cases x <;> cases y <;> first | exact .inr rfl | skip
  rename_i i j
  by_cases q : powOk i j
  · exact .inl ⟨i, j, rfl, rfl, powOk_is q, if_pos q⟩
  · exact .inr (if_neg q)
theorem opm_shl : OpM K c (rI CPow fun i j => .int (i * 2 ^ j.toNat)) shlF := opm_I fun x y h => by
  cases x <;> cases y <;> first | exact .inr rfl | skip
  rename_i i j
  by_cases q : powOk i j
  · exact .inl ⟨i, j, rfl, rfl, powOk_is q, if_pos q⟩
  · exact .inr (if_neg q)
theorem opm_shr : OpM K c (rI (fun _ j => 0 ≤ j) fun i j => .int (i / 2 ^ j.toNat)) shrF := opm_I fun x y h => by
  cases x <;> cases y <;> first | exact .inr rfl | skip
  rename_i i j
  by_cases q : 0 ≤ j
  · exact .inl ⟨i, j, rfl, rfl, q, if_pos q⟩
  · exact .inr (if_neg q)
theorem opm_or2 {r r' : R2} {f : MV → MV → MH → Res MV} (h : ∀ W h x y u v (Q : VK), Sim K W h → RV K W x u → RV K W y v → Pst K c (CV K Q) W (f x y h) → r u v W.H Q ∨ r' u v W.H Q) : OpM K c (fun x y H Q => r x y H Q ∨ r' x y H Q) f := h
/-- x + y of ints, texts, tuples -/
def rAddA (K : PySem.W.Frag) : R2 := fun x y H Q => (∃ i j, x = .int i ∧ y = .int j ∧ Q (.int (i + j)) H) ∨ (∃ i j, x = .str i ∧ y = .str j ∧ i.length + j.length ≤ sizeLine ∧ Q (.str (i ++ j)) H) ∨ rCatA K x y H Q
theorem op_addA : OpR X (binaryOp .Add) (rAddA X.K) := OpR.or op_add (OpR.or op_add_str op_catA)
theorem opm_add : OpM K c (rAddA K) addF := fun W h x y u v Q S r1 r2 p => by
  cases x <;> cases y <;> first | exact p.elim | skip
  · rename_i i j
    exact .inl ⟨i, j, rv_int r1, rv_int r2, p.now S _ (.int _)⟩
  · rename_i i j
    by_cases q : i.length + j.length ≤ lim
    · have p' : Pst K c (CV K Q) W (if i.length + j.length ≤ lim then ok (.str (i ++ j)) h else none) := p
      rw [if_pos q] at p'
      exact .inr (.inl ⟨i, j, rv_str r1, rv_str r2, lim_line q, p'.now S _ (.str _)⟩)
    · have p' : Pst K c (CV K Q) W (if i.length + j.length ≤ lim then ok (.str (i ++ j)) h else none) := p
      rw [if_neg q] at p'
      exact p'.elim
  · rename_i i j
    have p' : Pst K c (CV K Q) W (if i.length + j.length ≤ lim then ok (.tup (i ++ j)) h else none) := p
    by_cases q : i.length + j.length ≤ lim
    · rw [if_pos q] at p'
      obtain ⟨a, xs, rfl, ha, t1⟩ := tup_sq r1
      obtain ⟨b, ys, rfl, hb, t2⟩ := tup_sq r2
      refine .inr (.inr ⟨a, b, xs, ys, rfl, rfl, ha, hb, lim_line (by rw [← t1.length, ← t2.length]; exact q), fun e => ?_, fun e e' => ?_, fun e e' d hd => ?_⟩)
      · subst e
        cases t1
        exact p'.now S _ r2
      · subst e'
        cases t2
        rw [List.append_nil] at p'
        exact p'.now S _ r1
      · exact p' (W.put d (.tup (xs ++ ys))) (Ext.put S hd) (S.put hd) (.ref d) (.tup (S.fresh hd) upd_same ((t1.mono (Ext.put S hd)).append (t2.mono (Ext.put S hd))))
    · rw [if_neg q] at p'
      exact p'.elim
theorem unm_neg : UnM K c (rU fun i => .int (-i)) negF := fun W h x u Q S r p => by
  cases x <;> first | exact p.elim | skip
  rename_i i
  exact ⟨i, rv_int r, p.now S _ (.int _)⟩
theorem unm_inv : UnM K c (rU fun i => .int (Builtin.bitNot i)) invF := fun W h x u Q S r p => by
  cases x <;> first | exact p.elim | skip
  rename_i i
  exact ⟨i, rv_int r, p.now S _ (.int _)⟩
end
/-! ### comparisons -/
@[simp ↓] def ltF (x y : MV) (h : MH) : Res MV := match x, y with
  | .int i, .int j => ok (.bl (decide (i < j))) h
  | _, _ => none
@[simp ↓] def leF (x y : MV) (h : MH) : Res MV := match x, y with
  | .int i, .int j => ok (.bl (decide (i ≤ j))) h
  | _, _ => none
@[simp ↓] def gtF (x y : MV) (h : MH) : Res MV := match x, y with
  | .int i, .int j => ok (.bl (decide (j < i))) h
  | _, _ => none
@[simp ↓] def geF (x y : MV) (h : MH) : Res MV := match x, y with
  | .int i, .int j => ok (.bl (decide (j ≤ i))) h
  | _, _ => none
mutual
/-- a value as plain data (no place of the heap in it) -/
def pyOf : MV → Option PyData
  | .non => some .none
  | .bl b => some (.bool b)
  | .int i => some (.int i)
  | .str x => some (.str x)
  | .tup xs => (pysOf xs).map .tuple
  | .ktp xs => (pysOf xs).map .tuple
  | .fls xs => (pysOf xs).map .list
  | .frz xs => (pysOf xs).map .list
  | .ref _ => none
def pysOf : List MV → Option (List PyData)
  | [] => some []
  | x :: xs => match pyOf x, pysOf xs with
    | some d, some ds => some (d :: ds)
    | _, _ => none
end
/-- == by values -/
def eqB (x y : MV) : Option Bool := match x, y with
  | .int i, .int j => some (decide (i = j))
  | .bl i, .bl j => some (decide (i = j))
  | .str i, .str j => some (decide (i = j))
  | .non, .non => some true
  | _, _ => match pyOf x, pyOf y with
    | some d, some e => if SeqAt.shaped d = true ∧ SeqAt.shaped e = true then some (PyData.eqv d e) else none
    | _, _ => none
@[simp ↓] def eqF (x y : MV) (h : MH) : Res MV := match eqB x y with
  | some b => ok (.bl b) h
  | none => none
@[simp ↓] def neF (x y : MV) (h : MH) : Res MV := match eqB x y with
  | some b => ok (.bl (!b)) h
  | none => none
@[simp ↓] def isnF (x : MV) (h : MH) : Res MV := match x with
  | .non => ok (.bl true) h
  | _ => ok (.bl false) h
@[simp ↓] def notnF (x : MV) (h : MH) : Res MV := match x with
  | .non => ok (.bl false) h
  | _ => ok (.bl true) h
@[simp ↓] def isF (x y : MV) (h : MH) : Res MV := match y with
  | .non => isnF x h
  | _ => none
@[simp ↓] def notF (x y : MV) (h : MH) : Res MV := match y with
  | .non => notnF x h
  | _ => none
section
variable {X : Cx} {c : XC} {K : PySem.W.Frag} {W : Wd}
theorem opm_B0 {f : MV → MV → MH → Res MV} {g : Int → Int → Bool} (hf : ∀ x y h, (∃ i j, x = .int i ∧ y = .int j ∧ f x y h = ok (.bl (g i j)) h) ∨ f x y h = none) : OpM K c (rI0 fun i j => .bl (g i j)) f :=
  fun W h x y u v Q S r1 r2 p => by
    rcases hf x y h with ⟨i, j, e1, e2, e⟩ | e
    · subst e1 e2
      rw [e] at p
      exact ⟨i, j, rv_int r1, rv_int r2, p.now S _ (.bl _)⟩
    · rw [e] at p
      exact p.elim
theorem opm_lt : OpM K c (rI0 fun i j => .bl (decide (i < j))) ltF := opm_B0 fun x y h => by
  cases x <;> cases y <;> first | exact .inr rfl | exact .inl ⟨_, _, rfl, rfl, rfl⟩
theorem opm_le : OpM K c (rI0 fun i j => .bl (decide (i ≤ j))) leF := opm_B0 fun x y h => by
  cases x <;> cases y <;> first | exact .inr rfl | exact .inl ⟨_, _, rfl, rfl, rfl⟩
theorem opm_gt : OpM K c (rI0 fun i j => .bl (decide (j < i))) gtF := opm_B0 fun x y h => by
  cases x <;> cases y <;> first | exact .inr rfl | exact .inl ⟨_, _, rfl, rfl, rfl⟩
theorem opm_ge : OpM K c (rI0 fun i j => .bl (decide (j ≤ i))) geF := opm_B0 fun x y h => by
  cases x <;> cases y <;> first | exact .inr rfl | exact .inl ⟨_, _, rfl, rfl, rfl⟩
mutual
theorem py_dp : ∀ {x : MV} {v : V} {d : PyData}, RV K W x v → pyOf x = some d → Dp K W.H v d
  | .non, _, _, .non, e => by
    cases e
    exact .non
  | .bl b, _, _, .bl _, e => by
    cases e
    exact .bl b
  | .int i, _, _, .int _, e => by
    cases e
    exact .int i
  | .str x, _, _, .str _, e => by
    cases e
    exact .str x
  | .tup xs, _, d, .tup s q t, e => by
    unfold pyOf at e
    cases h : pysOf xs with
    | none =>
      rw [h] at e
      cases e
    | some ds =>
      rw [h] at e
      cases e
      exact .tup (.inl (.inl q)) (pys_dp t h)
  | .ktp xs, _, d, .tupK q t, e => by
    unfold pyOf at e
    cases h : pysOf xs with
    | none =>
      rw [h] at e
      cases e
    | some ds =>
      rw [h] at e
      cases e
      exact .tup (q _) (pys_dp t h)
  | .fls xs, _, d, .fls s q t, e => by
    unfold pyOf at e
    cases h : pysOf xs with
    | none =>
      rw [h] at e
      cases e
    | some ds =>
      rw [h] at e
      cases e
      exact .lst (.inl (.inl q)) (pys_dp t h)
  | .frz xs, _, d, .frz s q t, e => by
    unfold pyOf at e
    cases h : pysOf xs with
    | none =>
      rw [h] at e
      cases e
    | some ds =>
      rw [h] at e
      cases e
      exact .lst (.inl q) (pys_dp t h)
  | .frz xs, _, d, .frzK q t, e => by
    unfold pyOf at e
    cases h : pysOf xs with
    | none =>
      rw [h] at e
      cases e
    | some ds =>
      rw [h] at e
      cases e
      exact .lst (q _) (pys_dp t h)
  | .ref _, _, _, _, e => by cases e
theorem pys_dp : ∀ {xs : List MV} {vs : List V} {ds : List PyData}, RVs K W xs vs → pysOf xs = some ds → DpAll K W.H vs ds
  | [], _, _, .nil, e => by
    cases e
    exact .nil
  | x :: xs, _, _, .cons r t, e => by
    unfold pysOf at e
    cases h : pyOf x with
    | none =>
      rw [h] at e
      cases e
    | some d =>
      cases h2 : pysOf xs with
      | none =>
        rw [h, h2] at e
        cases e
      | some ds =>
        rw [h, h2] at e
        cases e
        exact .cons (py_dp r h) (pys_dp t h2)
end
def rEqA (K : PySem.W.Frag) : R2 := fun x y H Q => rEq x y H Q ∨ rEqD K x y H Q
def rNeA (K : PySem.W.Frag) : R2 := fun x y H Q => rNe x y H Q ∨ rNeD K x y H Q
theorem op_eqA (hu : X.A.units + 64 < cLine) : OpR X (compareOp .Eq) (rEqA X.K) := OpR.or op_eq (op_eqD hu)
theorem op_neA (hu : X.A.units + 64 < cLine) : OpR X (compareOp .NotEq) (rNeA X.K) := OpR.or op_ne (op_neD hu)
theorem eqB_cases {x y : MV} {u v : V} {b : Bool} (r1 : RV K W x u) (r2 : RV K W y v) (e : eqB x y = some b) :
    (scal u v = true ∧ decide (u = v) = b) ∨ ∃ d e, Dp K W.H u d ∧ Dp K W.H v e ∧ SeqAt.shaped d = true ∧ SeqAt.shaped e = true ∧ PyData.eqv d e = b := by
  have deep : ∀ x y : MV, RV K W x u → RV K W y v → (match pyOf x, pyOf y with | some d, some e => if SeqAt.shaped d = true ∧ SeqAt.shaped e = true then some (PyData.eqv d e) else none | _, _ => none) = some b →
      ∃ d e, Dp K W.H u d ∧ Dp K W.H v e ∧ SeqAt.shaped d = true ∧ SeqAt.shaped e = true ∧ PyData.eqv d e = b := fun x y r1 r2 e => by
    cases h : pyOf x with
    | none =>
      rw [h] at e
      cases e
    | some d =>
      cases h2 : pyOf y with
      | none =>
        rw [h, h2] at e
        cases e
      | some d2 =>
        rw [h, h2] at e
        have e' : (if SeqAt.shaped d = true ∧ SeqAt.shaped d2 = true then some (PyData.eqv d d2) else none) = some b := e
        by_cases q : SeqAt.shaped d = true ∧ SeqAt.shaped d2 = true
        · rw [if_pos q] at e'
          exact ⟨d, d2, py_dp r1 h, py_dp r2 h2, q.1, q.2, Option.some.inj e'⟩
        · rw [if_neg q] at e'
          cases e'
  cases x <;> cases y <;> first
    | exact .inr (deep _ _ r1 r2 e)
    | (cases r1; cases r2; exact .inl ⟨rfl, by simpa [eqB] using e⟩)
theorem opm_eq : OpM K c (rEqA K) eqF := fun W h x y u v Q S r1 r2 p => by
  unfold eqF at p
  cases e : eqB x y with
  | none =>
    rw [e] at p
    exact p.elim
  | some b =>
    rw [e] at p
    rcases eqB_cases r1 r2 e with ⟨a, d⟩ | ⟨d, e2, a1, a2, a3, a4, a5⟩
    · exact .inl ⟨a, by rw [d]; exact p.now S _ (.bl _)⟩
    · exact .inr ⟨d, e2, a1, a2, a3, a4, by rw [a5]; exact p.now S _ (.bl _)⟩
theorem opm_ne : OpM K c (rNeA K) neF := fun W h x y u v Q S r1 r2 p => by
  unfold neF at p
  cases e : eqB x y with
  | none =>
    rw [e] at p
    exact p.elim
  | some b =>
    rw [e] at p
    rcases eqB_cases r1 r2 e with ⟨a, d⟩ | ⟨d, e2, a1, a2, a3, a4, a5⟩
    · exact .inl ⟨a, by rw [d]; exact p.now S _ (.bl _)⟩
    · exact .inr ⟨d, e2, a1, a2, a3, a4, by rw [a5]; exact p.now S _ (.bl _)⟩
theorem opm_isn : OpM K c (fun x y H Q => y = .non ∧ Q (.bl (decide (x = .non))) H) isF := fun W h x y u v Q S r1 r2 p => by
  cases y <;> first | exact p.elim | skip
  refine ⟨rv_non r2, ?_⟩
  cases x <;> cases r1 <;> exact p.now S _ (.bl _)
theorem opm_notn : OpM K c (fun x y H Q => y = .non ∧ Q (.bl (!decide (x = .non))) H) notF := fun W h x y u v Q S r1 r2 p => by
  cases y <;> first | exact p.elim | skip
  refine ⟨rv_non r2, ?_⟩
  cases x <;> cases r1 <;> exact p.now S _ (.bl _)
end
/-! ### in -/
@[simp ↓] def flatM : MV → Bool
  | .non => true
  | .bl _ => true
  | .int _ => true
  | .str _ => true
  | _ => false
@[simp ↓] def eqM : MV → MV → Bool
  | .non, .non => true
  | .bl a, .bl b => a == b
  | .bl a, .int b => (if a then 1 else 0) == b
  | .int a, .bl b => a == (if b then 1 else 0)
  | .int a, .int b => a == b
  | .str a, .str b => a == b
  | _, _ => false
def inM (x : MV) (xs : List MV) : Bool := xs.any fun y => eqM y x
@[simp ↓] def inF (x y : MV) (h : MH) : Res MV := match seqOf h y with
  | some xs => if flatM x = true ∧ xs.all flatM = true then ok (.bl (inM x xs)) h else none
  | none => none
@[simp ↓] def ninF (x y : MV) (h : MH) : Res MV := match seqOf h y with
  | some xs => if flatM x = true ∧ xs.all flatM = true then ok (.bl (!inM x xs)) h else none
  | none => none
section
variable {X : Cx} {c : XC} {K : PySem.W.Frag} {W : Wd}
theorem flat_V {x : MV} {v : V} (r : RV K W x v) (h : flatM x = true) : flatV v = true := by
  cases r <;> first | rfl | cases h
theorem eq_V {x y : MV} {u v : V} (r1 : RV K W x u) (r2 : RV K W y v) (h1 : flatM x = true) (h2 : flatM y = true) : eqV u v = eqM x y := by
  cases r1 <;> cases r2 <;> first
    | rfl
    | exact absurd h1 Bool.false_ne_true
    | exact absurd h2 Bool.false_ne_true
theorem in_V {x : MV} {u : V} (r : RV K W x u) (hx : flatM x = true) : ∀ {xs : List MV} {vs : List V}, RVs K W xs vs → xs.all flatM = true → vs.all flatV = true ∧ inV u vs = inM x xs
  | _, _, .nil, _ => ⟨rfl, rfl⟩
  | _, _, .cons q t, h => by
    rw [List.all_cons, Bool.and_eq_true] at h
    obtain ⟨a, b⟩ := in_V r hx t h.2
    refine ⟨by rw [List.all_cons, flat_V q h.1, a]; rfl, ?_⟩
    unfold inV inM at b ⊢
    rw [List.any_cons, List.any_cons, eq_V q r h.1 hx, b]
theorem opm_in : OpM K c (rIn K false) inF := fun W h x y u v Q S r1 r2 p => by
  unfold inF at p
  cases e : seqOf h y with
  | none =>
    rw [e] at p
    exact p.elim
  | some xs =>
    rw [e] at p
    have p' : Pst K c (CV K Q) W (if flatM x = true ∧ xs.all flatM = true then ok (.bl (inM x xs)) h else none) := p
    by_cases q : flatM x = true ∧ xs.all flatM = true
    · rw [if_pos q] at p'
      obtain ⟨a, vs, e1, e2, t⟩ := seq_sq S r2 e
      obtain ⟨h1, h2⟩ := in_V r1 q.1 t q.2
      refine ⟨a, vs, e1, e2, flat_V r1 q.1, h1, ?_⟩
      rw [if_neg Bool.false_ne_true, h2]
      exact p'.now S _ (.bl _)
    · rw [if_neg q] at p'
      exact p'.elim
theorem opm_nin : OpM K c (rIn K true) ninF := fun W h x y u v Q S r1 r2 p => by
  unfold ninF at p
  cases e : seqOf h y with
  | none =>
    rw [e] at p
    exact p.elim
  | some xs =>
    rw [e] at p
    have p' : Pst K c (CV K Q) W (if flatM x = true ∧ xs.all flatM = true then ok (.bl (!inM x xs)) h else none) := p
    by_cases q : flatM x = true ∧ xs.all flatM = true
    · rw [if_pos q] at p'
      obtain ⟨a, vs, e1, e2, t⟩ := seq_sq S r2 e
      obtain ⟨h1, h2⟩ := in_V r1 q.1 t q.2
      refine ⟨a, vs, e1, e2, flat_V r1 q.1, h1, ?_⟩
      rw [if_pos rfl, h2]
      exact p'.now S _ (.bl _)
    · rw [if_neg q] at p'
      exact p'.elim
end
/-! ### subscripts -/
@[simp ↓] def ixF (x y : MV) (h : MH) : Res MV := match y with
  | .int i => match x with
    | .str z => if z.length ≤ lim then (match atI z.cps.toList i with
      | some q => ok (.str ⟨#[q]⟩) h
      | none => none) else none
    | _ => match seqOf h x with
      | some xs => match atI xs i with
        | some z => ok z h
        | none => none
      | none => none
  | _ => none
section
variable {X : Cx} {c : XC} {K : PySem.W.Frag} {W : Wd}
theorem RVs.atI {xs : List MV} {vs : List V} {i : Int} {x : MV} (t : RVs K W xs vs) (e : L2.atI xs i = some x) : ∃ v, L2.atI vs i = some v ∧ RV K W x v := by
  unfold L2.atI at e ⊢
  rw [← t.length]
  cases h : ixN xs.length i with
  | none =>
    rw [h] at e
    cases e
  | some j =>
    rw [h] at e
    exact t.get e
theorem opm_ix : OpM K c (rIx K) ixF := fun W h x y u v Q S r1 r2 p => by
  unfold ixF at p
  cases y with
  | int i =>
    have go : ∀ x : MV, RV K W x u → Pst K c (CV K Q) W (match seqOf h x with | some xs => (match L2.atI xs i with | some z => ok z h | none => none) | none => none) → rIx K u v W.H Q := fun x r1 p => by
      cases e : seqOf h x with
      | none =>
        rw [e] at p
        exact p.elim
      | some xs =>
        rw [e] at p
        have p' : Pst K c (CV K Q) W (match L2.atI xs i with | some z => ok z h | none => none) := p
        cases e2 : L2.atI xs i with
        | none =>
          rw [e2] at p'
          exact p'.elim
        | some z =>
          rw [e2] at p'
          obtain ⟨a, vs, q1, q2, t⟩ := seq_sq S r1 e
          obtain ⟨w, q3, q4⟩ := t.atI e2
          rcases q2 with q2 | q2
          · exact .inl ⟨a, vs, i, w, q1, rv_int r2, q2, q3, Pst.now p' S _ q4⟩
          · exact .inr (.inl ⟨a, vs, i, w, q1, rv_int r2, q2, q3, Pst.now p' S _ q4⟩)
    cases x with
    | str z =>
      have p' : Pst K c (CV K Q) W (if z.length ≤ lim then (match L2.atI z.cps.toList i with | some q => ok (.str ⟨#[q]⟩) h | none => none) else none) := p
      by_cases q : z.length ≤ lim
      · rw [if_pos q] at p'
        cases e : L2.atI z.cps.toList i with
        | none =>
          rw [e] at p'
          exact p'.elim
        | some w =>
          rw [e] at p'
          exact .inr (.inr ⟨z, i, w, rv_str r1, rv_int r2, lim_line q, e, Pst.now p' S _ (.str _)⟩)
      · rw [if_neg q] at p'
        exact p'.elim
    | _ => exact go _ r1 p
  | _ => exact p.elim
end
end Mi
set_option maxHeartbeats 2000000
/-! Mi: tests, statements, loops, comprehensions, calls. -/
namespace Mi
open PySem L2
/-! ### tests -/
@[simp ↓] def boolF (x : MV) (h : MH) : Res Bool := match x with
  | .bl b => ok b h
  | _ => none
@[simp ↓] def tstM (m : ME) : MM Bool := fun s h => (m s h).bnd boolF
@[simp ↓] def truF (x : MV) (h : MH) : Res Bool := match x with
  | .non => ok false h
  | .bl b => ok b h
  | .int i => ok (i != 0) h
  | .str z => if z.length ≤ lim then ok ((z.length : Int) != 0) h else none
  | .ref l => match h[l]? with
    | some (.lst xs) => ok (!xs.isEmpty) h
    | some (.dK kvs) => ok (!kvs.isEmpty) h
    | _ => none
  | .tup xs => ok (!xs.isEmpty) h
  | .ktp _ => none
  | .fls xs => ok (!xs.isEmpty) h
  | .frz xs => ok (!xs.isEmpty) h
@[simp ↓] def truM (m : ME) : MM Bool := fun s h => (m s h).bnd truF
@[simp ↓] def andT (a b : MM Bool) : MM Bool := fun s h => (a s h).bnd fun p h1 => if p = true then b s h1 else ok false h1
@[simp ↓] def orT (a b : MM Bool) : MM Bool := fun s h => (a s h).bnd fun p h1 => if p = true then ok true h1 else b s h1
@[simp ↓] def notT (a : MM Bool) : MM Bool := fun s h => (a s h).bnd fun p h1 => ok (!p) h1
@[simp ↓] def yesT : MM Bool := fun _ h => ok true h
@[simp ↓] def andV (a b : ME) : ME := fun s h => (a s h).bnd fun x h1 => (boolF x h1).bnd fun p h2 => if p = true then b s h2 else ok (.bl false) h2
@[simp ↓] def orV (a b : ME) : ME := fun s h => (a s h).bnd fun x h1 => (boolF x h1).bnd fun p h2 => if p = true then ok (.bl true) h2 else b s h2
@[simp ↓] def notV (a : ME) : ME := fun s h => (a s h).bnd fun x h1 => (truF x h1).bnd fun p h2 => ok (.bl (!p)) h2
@[simp ↓] def ifM (t : MM Bool) (a b : ME) : ME := fun s h => (t s h).bnd fun p h1 => if p = true then a s h1 else b s h1
@[simp ↓] def chainM (f g : MV → MV → MH → Res MV) (a b d : ME) : ME := fun s h => (a s h).bnd fun x h1 => (b s h1).bnd fun y h2 => (f x y h2).bnd fun z h3 => (boolF z h3).bnd fun p h4 =>
  if p = true then (d s h4).bnd fun w h5 => g y w h5 else ok (.bl false) h4
abbrev WM (X : Cx) (c : XC) (e : Expr) (m : MM Bool) : Prop := PW X e (tMB X.K c m)
section
variable {X : Cx} {c : XC} {e a b d : Expr} {rest : List Expr} {pos : Pos} {K : PySem.W.Frag} {W : Wd}
theorem boolF_ok {C : Wd → Bool → Prop} {x : MV} {v : V} {h : MH} (S : Sim K W h) (r : RV K W x v) (p : Pst K c C W (boolF x h)) : ∃ b, x = .bl b ∧ v = .bl b ∧ C W b := by
  cases x <;> first | exact p.elim | skip
  rename_i b
  exact ⟨b, rfl, rv_bl r, Pst.now p S⟩
theorem bm_cmp {op : CmpOp} {r : R2} {f : MV → MV → MH → Res MV} {ma mb : ME} (hr : OpR X (compareOp op) r) (ho : OpM X.K c r f) (ha : EM X c a ma) (hb : EM X c b mb) (hm : behindInMarks op b = false) : BM X c (.Compare a [op] [b] pos) (tstM (opM f ma mb)) :=
  pt_wk (pt_cmpR hr ha hb hm) fun σ H Q ⟨W, h, s, e, S, rs, p⟩ => by
    subst e
    refine tOp_of ho ⟨W, h, s, rfl, S, rs, p.bnd fun W1 h1 x x1 S1 p1 v r1 => ?_⟩
    obtain ⟨k, _, e2, q⟩ := boolF_ok S1 r1 p1
    exact ⟨k, e2, q⟩
theorem tru_V {x : MV} {v : V} {h : MH} {C : Wd → Bool → Prop} (S : Sim K W h) (r : RV K W x v) (p : Pst K c C W (truF x h)) : ∃ k, TruV K v W.H k ∧ C W k := by
  cases x with
  | non =>
    cases r
    exact ⟨false, rfl, Pst.now p S⟩
  | bl b =>
    cases r
    exact ⟨b, rfl, Pst.now p S⟩
  | int i =>
    cases r
    exact ⟨_, rfl, Pst.now p S⟩
  | str z =>
    cases r
    have p' : Pst K c C W (if z.length ≤ lim then ok ((z.length : Int) != 0) h else none) := p
    by_cases q : z.length ≤ lim
    · rw [if_pos q] at p'
      exact ⟨_, ⟨lim_line q, rfl⟩, Pst.now p' S⟩
    · rw [if_neg q] at p'
      exact p'.elim
  | tup xs =>
    obtain ⟨q, vs, rfl, hq, t⟩ := tup_sq r
    exact ⟨!vs.isEmpty, .inr (.inl ⟨vs, hq, rfl⟩), by rw [← t.nil_iff]; exact Pst.now p S⟩
  | ktp xs => exact p.elim
  | fls xs =>
    obtain ⟨q, vs, rfl, hq, t⟩ := lst_sq (h := h) S r rfl
    exact ⟨!vs.isEmpty, .inl ⟨vs, hq, rfl⟩, by rw [← t.nil_iff]; exact Pst.now p S⟩
  | frz xs =>
    obtain ⟨q, vs, rfl, hq, t⟩ := lst_sq (h := h) S r rfl
    exact ⟨!vs.isEmpty, .inl ⟨vs, hq, rfl⟩, by rw [← t.nil_iff]; exact Pst.now p S⟩
  | ref l =>
    have p' : Pst K c C W (match h[l]? with | some (.lst xs) => ok (!xs.isEmpty) h | some (.dK kvs) => ok (!kvs.isEmpty) h | _ => none) := p
    cases hl : h[l]? with
    | none =>
      rw [hl] at p'
      exact p'.elim
    | some o =>
      rw [hl] at p'
      cases o with
      | dead => exact p'.elim
      | lst xs =>
        obtain ⟨q, vs, rfl, e1, hq, t⟩ := S.lstAt hl r
        exact ⟨!vs.isEmpty, .inl ⟨vs, .inl (.inl hq), rfl⟩, by rw [← t.nil_iff]; exact Pst.now p' S⟩
      | dK kvs =>
        obtain ⟨q, rfl, e1, kws, hq, t⟩ := S.at hl (by intro z; cases z) r
        refine ⟨!kws.isEmpty, .inr (.inr ⟨kws, hq, rfl⟩), ?_⟩
        have en : kws.isEmpty = kvs.isEmpty := by cases t <;> rfl
        rw [en]
        exact Pst.now p' S
theorem bm_truth {ma : ME} (ha : EM X c a ma) (he : ∀ whole, isTrue a X.env whole = (do let v ← whole; standAt a.pos; holding [v] (truthy v))) : BM X c a (truM ma) :=
  pt_wk (pt_truth ha he) fun σ H Q ⟨W, h, s, e, S, rs, p⟩ => by
    subst e
    refine ⟨W, h, s, rfl, S, rs, p.bnd fun W1 h1 x x1 S1 p1 v r1 => ?_⟩
    exact tru_V S1 r1 p1
theorem wm_and1 {m : MM Bool} (ha : BM X c a m) : WM X c (.BoolOp .And [a] pos) m := pw_and1 ha
theorem wm_or1 {m : MM Bool} (ha : BM X c a m) : WM X c (.BoolOp .Or [a] pos) m := pw_or1 ha
theorem tAnd_of {m n : MM Bool} {σ : St} {H : Hp} {Q : Bool → Hp → Prop} (q : tMB K c (andT m n) σ H Q) : tAnd (tMB K c m) (tMB K c n) σ H Q := by
  obtain ⟨W, h, s, e, S, rs, p⟩ := q
  subst e
  refine ⟨W, h, s, rfl, S, rs, p.bnd fun W1 h1 k x1 S1 p1 => ?_⟩
  cases k with
  | true => exact ⟨W1, h1, s, rfl, S1, rs.mono x1, p1⟩
  | false => exact p1 W1 (Ext.refl _) S1
theorem tOr_of {m n : MM Bool} {σ : St} {H : Hp} {Q : Bool → Hp → Prop} (q : tMB K c (orT m n) σ H Q) : tOr (tMB K c m) (tMB K c n) σ H Q := by
  obtain ⟨W, h, s, e, S, rs, p⟩ := q
  subst e
  refine ⟨W, h, s, rfl, S, rs, p.bnd fun W1 h1 k x1 S1 p1 => ?_⟩
  cases k with
  | false => exact ⟨W1, h1, s, rfl, S1, rs.mono x1, p1⟩
  | true => exact p1 W1 (Ext.refl _) S1
theorem wm_and {m n : MM Bool} (ha : BM X c a m) (hb : WM X c (.BoolOp .And (b :: rest) pos) n) : WM X c (.BoolOp .And (a :: b :: rest) pos) (andT m n) := pw_wk (pw_and ha hb) fun σ H Q q => tAnd_of q
theorem wm_or {m n : MM Bool} (ha : BM X c a m) (hb : WM X c (.BoolOp .Or (b :: rest) pos) n) : WM X c (.BoolOp .Or (a :: b :: rest) pos) (orT m n) := pw_wk (pw_or ha hb) fun σ H Q q => tOr_of q
theorem bm_w {m : MM Bool} (h : WM X c e m) : BM X c e m := h.pt
theorem bm_not {m : MM Bool} (ha : BM X c a m) : BM X c (.UnaryOp .Not a pos) (notT m) := pt_wk (pt_not ha) fun σ H Q ⟨W, h, s, e, S, rs, p⟩ => by
  subst e
  exact ⟨W, h, s, rfl, S, rs, p.bnd fun W1 h1 k x1 S1 p1 => p1 W1 (Ext.refl _) S1⟩
theorem em_one {op} {m : ME} (h : EM X c a m) : EM X c (.BoolOp op [a] pos) m := pe_one h
theorem em_and {ma mb : ME} (ha : EM X c a ma) (hb : EM X c (.BoolOp .And (b :: rest) pos) mb) : EM X c (.BoolOp .And (a :: b :: rest) pos) (andV ma mb) := pe_wk (pe_and ha hb) fun σ H Q ⟨W, h, s, e, S, rs, p⟩ => by
  subst e
  refine ⟨W, h, s, rfl, S, rs, p.bnd fun W1 h1 x x1 S1 p1 v r1 => ?_⟩
  obtain ⟨k, _, e2, q⟩ := boolF_ok (C := fun W k => if k = true then tM X.K c mb σ W.H Q else Q (.bl false) W.H) S1 r1 (p1.bnd fun W2 h2 k x2 S2 p2 => by
    cases k with
    | true =>
      rw [if_pos rfl] at p2 ⊢
      exact ⟨W2, h2, s, rfl, S2, (rs.mono x1).mono x2, p2⟩
    | false =>
      rw [if_neg Bool.false_ne_true] at p2 ⊢
      exact Pst.now p2 S2 _ (.bl _))
  exact ⟨k, e2, q⟩
theorem em_or {ma mb : ME} (ha : EM X c a ma) (hb : EM X c (.BoolOp .Or (b :: rest) pos) mb) : EM X c (.BoolOp .Or (a :: b :: rest) pos) (orV ma mb) := pe_wk (pe_or ha hb) fun σ H Q ⟨W, h, s, e, S, rs, p⟩ => by
  subst e
  refine ⟨W, h, s, rfl, S, rs, p.bnd fun W1 h1 x x1 S1 p1 v r1 => ?_⟩
  obtain ⟨k, _, e2, q⟩ := boolF_ok (C := fun W k => if k = true then Q (.bl true) W.H else tM X.K c mb σ W.H Q) S1 r1 (p1.bnd fun W2 h2 k x2 S2 p2 => by
    cases k with
    | false =>
      rw [if_neg Bool.false_ne_true] at p2 ⊢
      exact ⟨W2, h2, s, rfl, S2, (rs.mono x1).mono x2, p2⟩
    | true =>
      rw [if_pos rfl] at p2 ⊢
      exact Pst.now p2 S2 _ (.bl _))
  exact ⟨k, e2, q⟩
theorem em_if {t : Expr} {mt : MM Bool} {ma mb : ME} (ht : BM X c t mt) (ha : EM X c a ma) (hb : EM X c b mb) : EM X c (.IfExp t a b pos) (ifM mt ma mb) := pe_wk (pe_ifExp ht ha hb) fun σ H Q ⟨W, h, s, e, S, rs, p⟩ => by
  subst e
  refine ⟨W, h, s, rfl, S, rs, p.bnd fun W1 h1 k x1 S1 p1 => ?_⟩
  cases k with
  | true => exact ⟨W1, h1, s, rfl, S1, rs.mono x1, p1⟩
  | false => exact ⟨W1, h1, s, rfl, S1, rs.mono x1, p1⟩
theorem em_not {m : ME} (ha : EM X c a m) : EM X c (.UnaryOp .Not a pos) (notV m) := pe_wk (pe_notT ha) fun σ H Q ⟨W, h, s, e, S, rs, p⟩ => by
  subst e
  refine ⟨W, h, s, rfl, S, rs, p.bnd fun W1 h1 x x1 S1 p1 v r1 => ?_⟩
  exact tru_V S1 r1 (p1.bnd fun W2 h2 k x2 S2 p2 => Pst.now p2 S2 _ (.bl _))
theorem tChain_of {r r' : R2} {f g : MV → MV → MH → Res MV} {ma mb md : ME} (hf : OpM K c r f) (hg : OpM K c r' g) {σ : St} {H : Hp} {Q : VK} (q : tM K c (chainM f g ma mb md) σ H Q) : tChain r r' (tM K c ma) (tM K c mb) (tM K c md) σ H Q := by
  obtain ⟨W, h, s, e, S, rs, p⟩ := q
  subst e
  refine ⟨W, h, s, rfl, S, rs, p.bnd fun W1 h1 x x1 S1 p1 u r1 => ?_⟩
  refine ⟨W1, h1, s, rfl, S1, rs.mono x1, p1.bnd fun W2 h2 y x2 S2 p2 v r2 => ?_⟩
  refine hf W2 h2 x y u v _ S2 (r1.mono x2) r2 (p2.bnd fun W3 h3 z x3 S3 p3 w r3 => ?_)
  obtain ⟨k, _, e2, q⟩ := boolF_ok (C := fun W k => if k = true then tM K c md σ W.H (fun w' H4 => r' v w' H4 Q) else Q (.bl false) W.H) S3 r3 (p3.bnd fun W4 h4 k x4 S4 p4 => by
    cases k with
    | true =>
      rw [if_pos rfl] at p4 ⊢
      exact ⟨W4, h4, s, rfl, S4, (((rs.mono x1).mono x2).mono x3).mono x4, p4.bnd fun W5 h5 w5 x5 S5 p5 u5 r5 => hg W5 h5 y w5 v u5 Q S5 (((r2.mono x3).mono x4).mono x5) r5 p5⟩
    | false =>
      rw [if_neg Bool.false_ne_true] at p4 ⊢
      exact Pst.now p4 S4 _ (.bl _))
  exact ⟨k, e2, q⟩
theorem em_chain {op op' : CmpOp} {r r' : R2} {f g : MV → MV → MH → Res MV} {ma mb md : ME} (hr : OpR X (compareOp op) r) (hr' : OpR X (compareOp op') r') (hf : OpM X.K c r f) (hg : OpM X.K c r' g) (ha : EM X c a ma) (hb : EM X c b mb) (hd : EM X c d md)
    (hm : lastMarks [op, op'] [b, d] = false := by with_unfolding_all rfl) : EM X c (.Compare a [op, op'] [b, d] pos) (chainM f g ma mb md) := pe_wk (pe_chain hr hr' ha hb hd hm) fun σ H Q q => tChain_of hf hg q
theorem bm_chain {op op' : CmpOp} {r r' : R2} {f g : MV → MV → MH → Res MV} {ma mb md : ME} (hr : OpR X (compareOp op) r) (hr' : OpR X (compareOp op') r') (hf : OpM X.K c r f) (hg : OpM X.K c r' g) (ha : EM X c a ma) (hb : EM X c b mb) (hd : EM X c d md)
    (hm : lastMarks [op, op'] [b, d] = false := by with_unfolding_all rfl) : BM X c (.Compare a [op, op'] [b, d] pos) (tstM (chainM f g ma mb md)) := pt_wk (pt_chain hr hr' ha hb hd hm) fun σ H Q ⟨W, h, s, e, S, rs, p⟩ => by
  subst e
  refine tChain_of hf hg ⟨W, h, s, rfl, S, rs, p.bnd fun W1 h1 x x1 S1 p1 v r1 => ?_⟩
  obtain ⟨k, _, e2, q⟩ := boolF_ok S1 r1 p1
  exact ⟨k, e2, q⟩
end
/-! ### statements -/
@[simp ↓] def bndS {α : Type} (r : Res α) (k : α → MH → Option OutS) : Option OutS := match r with
  | none => none
  | some (.ok a h) => k a h
  | some (.ex e h) => some (.ex e h)
theorem bndS_ok {α : Type} {a : α} {h : MH} {k : α → MH → Option OutS} : bndS (ok a h) k = k a h := rfl
def PstS (K : PySem.W.Frag) (c : XC) (D : Ends) (W : Wd) (r : Option OutS) : Prop := match r with
  | none => False
  | some (.nx s h) => ∀ W' σ, Ext W W' → Sim K W' h → RS K W' s σ → D.nx σ W'.H
  | some (.ret x h) => ∀ W' v, Ext W W' → Sim K W' h → RV K W' x v → D.rt v W'.H
  | some (.brk s h) => ∀ W' σ, Ext W W' → Sim K W' h → RS K W' s σ → D.bk σ W'.H
  | some (.cnt s h) => ∀ W' σ, Ext W W' → Sim K W' h → RS K W' s σ → D.ct σ W'.H
  | some (.ex e h) => PX K c W e h
def tS (K : PySem.W.Frag) (c : XC) (m : MT) : TS := fun D σ H => ∃ W h s, W.H = H ∧ Sim K W h ∧ RS K W s σ ∧ PstS K c D W (m s h)
abbrev SM (X : Cx) (c : XC) (st : Stmt) (m : MT) : Prop := PS X st (tS X.K c m)
abbrev SsM (X : Cx) (c : XC) (sts : List Stmt) (m : MT) : Prop := PSs X sts (tS X.K c m)
theorem ps_wk {X : Cx} {st : Stmt} {t t' : TS} (h : PS X st t) (w : ∀ D σ H, t' D σ H → t D σ H) : PS X st t' := ⟨fun pins s σ H D I q => h.run pins s σ H D I (w _ _ _ q)⟩
theorem pss_wk {X : Cx} {st : List Stmt} {t t' : TS} (h : PSs X st t) (w : ∀ D σ H, t' D σ H → t D σ H) : PSs X st t' := ⟨fun pins s σ H D I q => h.run pins s σ H D I (w _ _ _ q)⟩
section
variable {K : PySem.W.Frag} {c : XC} {α : Type} {D : Ends} {W W' : Wd}
theorem PstS.shift {r : Option OutS} (x : Ext W W') (p : PstS K c D W r) : PstS K c D W' r := by
  match r, p with
  | some (.nx s h), p => exact fun W2 σ x2 S rs => p W2 σ (x.trans x2) S rs
  | some (.ret s h), p => exact fun W2 σ x2 S rs => p W2 σ (x.trans x2) S rs
  | some (.brk s h), p => exact fun W2 σ x2 S rs => p W2 σ (x.trans x2) S rs
  | some (.cnt s h), p => exact fun W2 σ x2 S rs => p W2 σ (x.trans x2) S rs
  | some (.ex e h), p => exact PX.shift x p
theorem PstS.bnd {C : Wd → α → Prop} {r : Res α} {k : α → MH → Option OutS} (p : PstS K c D W (bndS r k))
    (i : ∀ W1 h1 a, Ext W W1 → Sim K W1 h1 → PstS K c D W1 (k a h1) → C W1 a) : Pst K c C W r := by
  match r, p with
  | some (.ok a h), p => exact fun W2 x2 s => i W2 h a x2 s (PstS.shift x2 p)
  | some (.ex e h), p => exact p
end
@[simp ↓] def nilS : MT := fun s h => some (.nx s h)
@[simp ↓] def seqS (a b : MT) : MT := fun s h => match a s h with
  | some (.nx s1 h1) => b s1 h1
  | r => r
@[simp ↓] def setS (i : Nat) (m : ME) : MT := fun s h => bndS (m s h) fun x h1 => some (.nx (s.set i (some x)) h1)
@[simp ↓] def dropS (m : ME) : MT := fun s h => bndS (m s h) fun _ h1 => some (.nx s h1)
@[simp ↓] def retS (m : ME) : MT := fun s h => bndS (m s h) fun x h1 => some (.ret x h1)
@[simp ↓] def retnS : MT := fun _ h => some (.ret .non h)
@[simp ↓] def ifS (t : MM Bool) (a b : MT) : MT := fun s h => bndS (t s h) fun p h1 => if p = true then a s h1 else b s h1
@[simp ↓] def brkS : MT := fun s h => some (.brk s h)
@[simp ↓] def cntS : MT := fun s h => some (.cnt s h)
def neverS : MT := fun _ _ => none
/-- names that take a tuple's items -/
@[simp ↓] def putAll : List Nat → List MV → MS → Option MS
  | [], [], s => some s
  | i :: is, x :: xs, s => putAll is xs (s.set i (some x))
  | _, _, _ => none
@[simp ↓] def unp (is : List Nat) (x : MV) (s : MS) : Option MS := match x with
  | .tup xs => putAll is xs s
  | _ => none
@[simp ↓] def one (i : Nat) (x : MV) (s : MS) : Option MS := some (s.set i (some x))
@[simp ↓] def asgS (g : MV → MS → Option MS) (m : ME) : MT := fun s h => bndS (m s h) fun x h1 => match g x s with
  | some s1 => some (.nx s1 h1)
  | none => none
@[simp ↓] def wrF (l : Nat) (i : Int) (x : MV) (h : MH) : Option MH := match h[l]? with
  | some (.lst xs) => match ixN xs.length i with
    | some j => some (h.set l (.lst (xs.set j x)))
    | none => none
  | _ => none
@[simp ↓] def subS (m o i : ME) : MT := fun s h => bndS (m s h) fun x h1 => bndS (o s h1) fun y h2 => bndS (i s h2) fun z h3 => match y, z with
  | .ref l, .int j => match wrF l j x h3 with
    | some h4 => some (.nx s h4)
    | none => none
  | _, _ => none
@[simp ↓] def augS (i : Nat) (f : Int → Int → Int) (m : ME) : MT := fun s h => match slot s i with
  | some (.int a) => bndS (m s h) fun y h1 => match y with
    | .int b => some (.nx (s.set i (some (.int (f a b)))) h1)
    | _ => none
  | _ => none
section
variable {X : Cx} {c : XC} {e a b o : Expr} {pos : Pos} {K : PySem.W.Frag} {st : Stmt} {rest sts : List Stmt}
theorem ss_nil : SsM X c [] nilS := pss_wk pss_nil fun D σ H ⟨W, h, s, e, S, rs, p⟩ => by
  subst e
  exact p W σ (Ext.refl W) S rs
theorem ss_cons {m n : MT} (h1 : SM X c st m) (h2 : SsM X c rest n) : SsM X c (st :: rest) (seqS m n) := pss_wk (pss_cons h1 h2) fun D σ H ⟨W, h, s, e, S, rs, p⟩ => by
  subst e
  refine ⟨W, h, s, rfl, S, rs, ?_⟩
  unfold seqS at p
  cases q : m s h with
  | none =>
    rw [q] at p
    exact p.elim
  | some r =>
    rw [q] at p
    cases r with
    | nx s1 h1 => exact fun W1 σ1 x1 S1 rs1 => ⟨W1, h1, s1, rfl, S1, rs1, PstS.shift x1 p⟩
    | ret x h1 => exact p
    | brk s1 h1 => exact p
    | cnt s1 h1 => exact p
    | ex x h1 => exact p
theorem ss_one {m : MT} (h : SM X c st m) : SsM X c [st] m := pss_one h
theorem s_pass : SM X c (.Pass pos) nilS := ps_wk ps_pass fun D σ H ⟨W, h, s, e, S, rs, p⟩ => by
  subst e
  exact p W σ (Ext.refl W) S rs
theorem s_break : SM X c (.Break pos) brkS := ps_wk ps_break fun D σ H ⟨W, h, s, e, S, rs, p⟩ => by
  subst e
  exact p W σ (Ext.refl W) S rs
theorem s_continue : SM X c (.Continue pos) cntS := ps_wk ps_continue fun D σ H ⟨W, h, s, e, S, rs, p⟩ => by
  subst e
  exact p W σ (Ext.refl W) S rs
theorem s_never : SM X c st neverS := ps_wk ps_never fun D σ H ⟨W, h, s, e, S, rs, p⟩ => p.elim
theorem s_expr {m : ME} (he : EM X c e m) (hs : swapsWith e none pos.line X.env = pure false := by rfl) : SM X c (.Expr e pos) (dropS m) := ps_wk (ps_expr he hs) fun D σ H ⟨W, h, s, e, S, rs, p⟩ => by
  subst e
  exact ⟨W, h, s, rfl, S, rs, p.bnd fun W1 h1 x x1 S1 p1 v r1 => p1 W1 σ (Ext.refl _) S1 (rs.mono x1)⟩
theorem s_ret {m : ME} (he : EM X c e m) : SM X c (.Return (some e) pos) (retS m) := ps_wk (ps_ret he) fun D σ H ⟨W, h, s, e, S, rs, p⟩ => by
  subst e
  exact ⟨W, h, s, rfl, S, rs, p.bnd fun W1 h1 x x1 S1 p1 v r1 => p1 W1 v (Ext.refl _) S1 r1⟩
theorem s_retn : SM X c (.Return none pos) retnS := ps_wk ps_retN fun D σ H ⟨W, h, s, e, S, rs, p⟩ => by
  subst e
  exact p W _ (Ext.refl W) S .non
theorem s_if {t : Expr} {mt : MM Bool} {ma mb : MT} {aa bb : List Stmt} (ht : BM X c t mt) (ha : SsM X c aa ma) (hb : SsM X c bb mb) : SM X c (.If t aa bb pos) (ifS mt ma mb) := ps_wk (ps_if ht ha hb) fun D σ H ⟨W, h, s, e, S, rs, p⟩ => by
  subst e
  refine ⟨W, h, s, rfl, S, rs, p.bnd fun W1 h1 k x1 S1 p1 => ?_⟩
  cases k with
  | true => exact ⟨W1, h1, s, rfl, S1, rs.mono x1, p1⟩
  | false => exact ⟨W1, h1, s, rfl, S1, rs.mono x1, p1⟩
theorem s_set {i : Nat} {x : Str} {m : ME} {pos' : Pos} (hN : X.N.Nodup) (hi : X.N[i]? = some x) (hx : Loc X.env.scope x) (he : EM X c e m) (hs : swapsWith e (some (.Name x pos')) pos.line X.env = pure false := by rfl) (hf : X.fn x = true ∨ X.env.scope.names.lookup x = some .local := by first | exact .inl rfl | exact .inr rfl | assumption) :
    SM X c (.Assign [.Name x pos'] e pos) (setS i m) := ps_wk (ps_set hN hi hx he hs hf) fun D σ H ⟨W, h, s, e, S, rs, p⟩ => by
  subst e
  exact ⟨W, h, s, rfl, S, rs, p.bnd fun W1 h1 y x1 S1 p1 v r1 => p1 W1 _ (Ext.refl _) S1 ((rs.mono x1).set r1 i)⟩
/-- what a target's rule owes to the mirror's g -/
def TgM (K : PySem.W.Frag) (t : TG) (g : MV → MS → Option MS) : Prop := ∀ (W : Wd) (s s' : MS) (σ : St) (x : MV) (v : V) (Q : St → Hp → Prop), RS K W s σ → RV K W x v → g x s = some s' → (∀ σ', RS K W s' σ' → Q σ' W.H) → t v σ W.H Q
theorem tg_one (i : Nat) : TgM K (gName i) (one i) := fun W s s' σ x v Q rs r e q => by
  cases e
  exact q _ (rs.set r i)
def gNames : List Nat → TGs
  | [] => gNil
  | i :: is => gCons (gName i) (gNames is)
theorem tg_all : ∀ (is : List Nat) (W : Wd) (s s' : MS) (σ : St) (xs : List MV) (vs : List V) (Q : St → Hp → Prop), RS K W s σ → RVs K W xs vs → putAll is xs s = some s' → (∀ σ', RS K W s' σ' → Q σ' W.H) → gNames is vs σ W.H Q
  | [], W, s, s', σ, [], _, Q, rs, .nil, e, q => by
    cases e
    exact ⟨rfl, q σ rs⟩
  | i :: is, W, s, s', σ, x :: xs, _, Q, rs, .cons r t, e, q => ⟨_, _, rfl, tg_all is W _ s' _ xs _ Q (rs.set r i) t e q⟩
  | [], _, _, _, _, _ :: _, _, _, _, _, e, _ => by cases e
  | _ :: _, _, _, _, _, [], _, _, _, _, e, _ => by cases e
theorem putAll_len : ∀ {is : List Nat} {xs : List MV} {s s' : MS}, putAll is xs s = some s' → xs.length = is.length
  | [], [], _, _, _ => rfl
  | i :: is, x :: xs, s, s', e => by
    rw [List.length_cons, List.length_cons, putAll_len (show putAll is xs (s.set i (some x)) = some s' from e)]
  | [], _ :: _, _, _, e => by cases e
  | _ :: _, [], _, _, e => by cases e
theorem tg_tup (is : List Nat) : TgM K (gTup K is.length (gNames is)) (unp is) := fun W s s' σ x v Q rs r e q => by
  cases x <;> first | (cases e; done) | skip
  rename_i xs
  obtain ⟨a, vs, rfl, hq, t⟩ := tup_sq r
  exact ⟨a, vs, rfl, hq, by rw [← t.length]; exact putAll_len e, tg_all is W s s' σ xs vs Q rs t e q⟩
theorem s_asg {tg : Expr} {t : TG} {g : MV → MS → Option MS} {m : ME} (he : EM X c e m) (hg : PG X tg t) (ho : TgM X.K t g) (hs : swapsWithSole [tg] e pos.line X.env = pure false := by rfl) (hw : swappedStores [tg] e X.env = pure none := by rfl)
    (h1 : (assignEach [tg] X.env).map (·.2) = [assign tg X.env] := by rfl) : SM X c (.Assign [tg] e pos) (asgS g m) := ps_wk (ps_asg he hg hs hw h1) fun D σ H ⟨W, h, s, e, S, rs, p⟩ => by
  subst e
  refine ⟨W, h, s, rfl, S, rs, p.bnd fun W1 h1 y x1 S1 p1 v r1 => ?_⟩
  cases q : g y s with
  | none =>
    rw [q] at p1
    exact p1.elim
  | some s1 =>
    rw [q] at p1
    exact ho W1 s s1 σ y v _ (rs.mono x1) r1 q fun σ' rs' => p1 W1 σ' (Ext.refl _) S1 rs'
/-- o[i] = e, a list's item -/
theorem wrF_ok {W : Wd} {h h' : MH} {l : Nat} {j : Int} {x : MV} {u v : V} {Q : Hp → Prop} (S : Sim K W h) (r : RV K W (.ref l) u) (rx : RV K W x v) (e : wrF l j x h = some h') (q : ∀ W', Ext W W' → Sim K W' h' → Q W'.H) : rSetL u (.int j) v W.H Q := by
  unfold wrF at e
  cases hl : h[l]? with
  | none =>
    rw [hl] at e
    cases e
  | some m =>
    rw [hl] at e
    cases m with
    | lst xs =>
      have e' : (match ixN xs.length j with | some j => some (h.set l (MO.lst (xs.set j x))) | none => none) = some h' := e
      cases hi : ixN xs.length j with
      | none =>
        rw [hi] at e'
        cases e'
      | some k =>
        rw [hi] at e'
        cases e'
        obtain ⟨p, vs, rfl, e1, e2, t⟩ := S.lstAt hl r
        refine ⟨p, vs, j, k, rfl, rfl, e2, by rw [← t.length]; exact hi, ?_⟩
        exact q (W.wr p (.lst (vs.set k v))) (Ext.wr S e1) (S.wr e1 ⟨_, upd_same, (t.set rx k).mono (Ext.wr S e1)⟩)
    | dead => cases e
    | dK kvs => cases e
theorem s_sub {m mo mi : ME} {i : Expr} {p' : Pos} (he : EM X c e m) (ho : EM X c o mo) (hi : EM X c i mi) (ha : ∀ v, assign (.Subscript o i p') X.env v = (do let o1 ← holding [v] (eval o X.env); let i1 ← holding [v, o1] (eval i X.env); standAt p'; holding [v, o1, i1] (setItem o1 i1 v); release [v, o1, i1] []) := by intro _; rfl) (hs : swapsWithSole [.Subscript o i p'] e pos.line X.env = pure false := by rfl) (hw : swappedStores [.Subscript o i p'] e X.env = pure none := by rfl)
    (h1 : (assignEach [.Subscript o i p'] X.env).map (·.2) = [assign (.Subscript o i p') X.env] := by rfl) : SM X c (.Assign [.Subscript o i p'] e pos) (subS m mo mi) := ps_wk (ps_asg he (pg_sub ho hi set_list ha) hs hw h1) fun D σ H ⟨W, h, s, e, S, rs, p⟩ => by
  subst e
  refine ⟨W, h, s, rfl, S, rs, p.bnd fun W1 h1 y x1 S1 p1 v r1 => ?_⟩
  refine ⟨W1, h1, s, rfl, S1, rs.mono x1, p1.bnd fun W2 h2 y2 x2 S2 p2 v2 r2 => ?_⟩
  refine ⟨W2, h2, s, rfl, S2, (rs.mono x1).mono x2, p2.bnd fun W3 h3 y3 x3 S3 p3 v3 r3 => ?_⟩
  cases y2 <;> first | exact p3.elim | skip
  cases y3 <;> first | exact p3.elim | skip
  rename_i l j
  cases q : wrF l j y h3 with
  | none =>
    simp only [q] at p3
    exact p3.elim
  | some h4 =>
    simp only [q] at p3
    rw [rv_int r3]
    exact wrF_ok S3 (r2.mono x3) ((r1.mono x2).mono x3) q fun W4 x4 S4 => p3 W4 σ x4 S4 (((rs.mono x1).mono x2).mono (x3.trans x4))
theorem s_aug {i : Nat} {x : Str} {m : ME} {op : Operator} {f : Int → Int → Int} {p' : Pos} (hN : X.N.Nodup) (hi : X.N[i]? = some x) (hx : Loc X.env.scope x) (hop : PIp X op (ipI f)) (he : EM X c e m)
    (hf : X.fn x = true ∨ X.env.scope.names.lookup x = some .local := by first | exact .inl rfl | exact .inr rfl | assumption) : SM X c (.AugAssign (.Name x p') op e pos) (augS i f m) := ps_wk (ps_aug hN hi hx he hop hf) fun D σ H ⟨W, h, s, e, S, rs, p⟩ => by
  subst e
  unfold augS at p
  cases q : slot s i with
  | none =>
    rw [q] at p
    exact p.elim
  | some y =>
    rw [q] at p
    cases y <;> first | exact p.elim | skip
    rename_i a
    obtain ⟨v, hv, r⟩ := rs.get (slot_eq s i q)
    refine ⟨v, hv, W, h, s, rfl, S, rs, p.bnd fun W1 h1 y x1 S1 p1 u r1 => ?_⟩
    cases y <;> first | exact p1.elim | skip
    rename_i b
    exact ⟨a, b, rv_int r, rv_int r1, p1 W1 _ (Ext.refl _) S1 ((rs.mono x1).set (.int _) i)⟩
end
end Mi
set_option maxHeartbeats 2000000
/-! Mi: loops, comprehensions, own defs. -/
namespace Mi
open PySem L2
/-! ### what is walked -/
inductive MIter where
  | st (its : List MV) | dyn (l n : Nat)
def JR (K : PySem.W.Frag) (W : Wd) (it : MIter) (J : It) : Prop := match it with
  | .st its => ∀ (i : Nat) (W' : Wd) (h : MH), Ext W W' → Sim K W' h →
      (∀ x, its[i]? = some x → J.go i W'.H ∧ ∀ v H2, J.yld i W'.H v H2 → ∃ W2, W2.H = H2 ∧ Ext W' W2 ∧ Sim K W2 h ∧ RV K W2 x v) ∧ (its.length ≤ i → J.stop i W'.H)
  | .dyn l _ => ∃ a, W.f l = some a ∧ J = Itl K a
def CI (K : PySem.W.Frag) (R : It → Hp → Prop) (W : Wd) (it : MIter) : Prop := ∀ J, JR K W it J → R J W.H
abbrev tMI (K : PySem.W.Frag) (c : XC) (m : MM MIter) : TI := tG K c (CI K) m
abbrev IM (X : Cx) (c : XC) (tg e : Expr) (m : MM MIter) : Prop := PI X tg e (tMI X.K c m)
theorem pi_wk {X : Cx} {tg e : Expr} {t t' : TI} (h : PI X tg e t) (w : ∀ σ H R, t' σ H R → t σ H R) : PI X tg e t' := ⟨fun pins s σ H R I q => h.run pins s σ H R I (w _ _ _ q)⟩
@[simp ↓] def seqI (m : ME) : MM MIter := fun s h => (m s h).bnd fun x h1 => match x with
  | .tup xs => ok (.st xs) h1
  | .ktp xs => ok (.st xs) h1
  | .fls xs => ok (.st xs) h1
  | .frz xs => ok (.st xs) h1
  | .ref l => match h1[l]? with
    | some (.lst xs) => ok (.dyn l (xs.length + 1)) h1
    | _ => none
  | _ => none
def runOf (a : Int) (n : Nat) : List MV := (List.range n).map fun (i : Nat) => MV.int (a + (i : Int))
@[simp ↓] def rng1F (xs : List MV) (h : MH) : Res MIter := match xs with
  | [.int n] => if n ≤ 1000000 ∧ -1000000 ≤ n then ok (.st (runOf 0 n.toNat)) h else none
  | _ => none
@[simp ↓] def rng2F (xs : List MV) (h : MH) : Res MIter := match xs with
  | [.int a, .int b] => if (a ≤ 1000000 ∧ -1000000 ≤ a) ∧ (b ≤ 1000000 ∧ -1000000 ≤ b) then ok (.st (runOf a (b - a).toNat)) h else none
  | _ => none
@[simp ↓] def rng1 (m : MM (List MV)) : MM MIter := fun s h => (m s h).bnd rng1F
@[simp ↓] def rng2 (m : MM (List MV)) : MM MIter := fun s h => (m s h).bnd rng2F
section
variable {X : Cx} {c : XC} {tg e a b : Expr} {K : PySem.W.Frag} {W : Wd}
/-- a list or a tuple, walked -/
def iSeq (K : PySem.W.Frag) (tl : TE) : TI := fun σ H R => tl σ H fun x H1 => (∃ a, x = .ref a ∧ (∃ xs, SqL K H1 a xs) ∧ R (Itl K a) H1) ∨ ∃ a, x = .ref a ∧ (∃ xs, SqT K H1 a xs) ∧ R (Itt K a) H1
theorem pi_seq {tl : TE} (hl : PE X e tl) : PI X tg e (iSeq X.K tl) := by
  refine ⟨fun pins s σ H R I h => thn (hl.run pins s σ H _ I h) fun v s1 ⟨x, H1, I1, r1, q1⟩ => ?_⟩
  have at1 : ∀ b ∈ [s1.heap.objs.size], FpOk X pins H1 b := fun b hb => by
    obtain rfl : b = s1.heap.objs.size := by simpa using hb
    exact I1.fpOk (Nat.le_refl _) (I1.hok.fresh (Nat.le_refl _))
  rcases q1 with ⟨a, e, ⟨xs, hq⟩, q⟩ | ⟨a, e, ⟨xs, hq⟩, q⟩
  · subst e
    cases r1
    obtain ⟨its, rv, p, hz⟩ := I1.list hq
    exact wpAny_pyIter_list p.isList ⟨s1.heap.objs.size, [s1.heap.objs.size], _, _, H1, rfl, I1.kept (t' := s1.toks) (fun b o z => Heap.get?_push_of_some _ z),
      turn_list a _, ⟨_, Heap.get?_push_size _ rfl, rfl, rfl⟩, at1, q⟩
  · subst e
    cases r1
    obtain ⟨its, rv, p, hz⟩ := I1.tuple hq
    exact wpAny_pyIter_tuple (show s1.heap.IsTuple a its.toArray from p) ⟨s1.heap.objs.size, [s1.heap.objs.size], _, _, H1, rfl, I1.kept (t' := s1.toks) (fun b o z => Heap.get?_push_of_some _ z),
      turn_tuple a _, ⟨_, Heap.get?_push_size _ rfl, rfl, rfl⟩, at1, q⟩
theorem rd_lst_inj {H : Hp} {p : Addr} {o : HO} {vs ws : List V} (h : H p = some o) (a : o = .lst vs ∨ ∃ u, o = .frz u (.lst vs)) (b : Rd H p (.lst ws)) : ws = vs := by
  rcases b with b | ⟨z, b⟩ <;> rw [h] at b <;> rcases a with a | ⟨u, a⟩ <;> subst a <;> cases b <;> rfl
theorem sql_get {H : Hp} {p : Addr} {vs : List V} {i : Nat} {v : V} (h : SqL K H p vs) (y : ∀ xs, SqL K H p xs → xs[i]? = some v) : vs[i]? = some v := y vs h
theorem jr_lst {x : MV} {u : V} {xs : List MV} {h : MH} (S : Sim K W h) (r : RV K W x u) (hx : x = .fls xs ∨ x = .frz xs) : ∃ a, u = .ref a ∧ (∃ vs, SqL K W.H a vs) ∧ JR K W (.st xs) (Itl K a) := by
  have go : ∀ (W' : Wd), Ext W W' → ∀ h', Sim K W' h' → ∃ a vs, u = .ref a ∧ SqL K W'.H a vs ∧ RVs K W' xs vs := fun W' x' h' S' => by
    have r' := r.mono x'
    rcases hx with e | e <;> subst e
    · obtain ⟨p, vs, e1, e2, t⟩ := lst_sq (h := h') S' r' rfl
      exact ⟨p, vs, e1, e2, t⟩
    · obtain ⟨p, vs, e1, e2, t⟩ := lst_sq (h := h') S' r' rfl
      exact ⟨p, vs, e1, e2, t⟩
  obtain ⟨a, vs, e1, e2, t⟩ := go W (Ext.refl W) h S
  refine ⟨a, e1, ⟨vs, e2⟩, fun i W' h' x' S' => ?_⟩
  obtain ⟨a', ws, e1', e2', t'⟩ := go W' x' h' S'
  rw [e1] at e1'
  cases e1'
  refine ⟨fun y hy => ?_, fun hi => ⟨ws, e2', by rw [← t'.length]; exact hi⟩⟩
  obtain ⟨v, hv, rv⟩ := t'.get hy
  refine ⟨⟨ws, v, e2', hv⟩, fun v2 H2 ⟨eh, y2⟩ => ⟨W', eh.symm, Ext.refl _, S', ?_⟩⟩
  have := y2 ws e2'
  rw [hv] at this
  cases this
  exact rv
theorem jr_tup {u : V} {x : MV} {xs : List MV} {h : MH} (S : Sim K W h) (r : RV K W x u) (hx : x = .tup xs ∨ x = .ktp xs) : ∃ a, u = .ref a ∧ (∃ vs, SqT K W.H a vs) ∧ JR K W (.st xs) (Itt K a) := by
  have sq : ∀ {W' : Wd}, RV K W' x u → ∃ p vs, u = .ref p ∧ SqT K W'.H p vs ∧ RVs K W' xs vs := fun r => by
    rcases hx with e | e <;> subst e
    · exact tup_sq r
    · exact ktp_sq r
  obtain ⟨a, vs, e1, e2, t⟩ := sq r
  refine ⟨a, e1, ⟨vs, e2⟩, fun i W' h' x' S' => ?_⟩
  obtain ⟨a', ws, e1', e2', t'⟩ := sq (r.mono x')
  rw [e1] at e1'
  cases e1'
  refine ⟨fun y hy => ?_, fun hi => ⟨ws, e2', by rw [← t'.length]; exact hi⟩⟩
  obtain ⟨v, hv, rv⟩ := t'.get hy
  refine ⟨⟨ws, v, e2', hv⟩, fun v2 H2 ⟨eh, y2⟩ => ⟨W', eh.symm, Ext.refl _, S', ?_⟩⟩
  have := y2 ws e2'
  rw [hv] at this
  cases this
  exact rv
theorem im_seq {m : ME} (he : EM X c e m) : IM X c tg e (seqI m) := pi_wk (pi_seq he) fun σ H R ⟨W, h, s, e, S, rs, p⟩ => by
  subst e
  refine ⟨W, h, s, rfl, S, rs, p.bnd fun W1 h1 x x1 S1 p1 v r1 => ?_⟩
  cases x with
  | tup xs =>
    obtain ⟨a, e1, e2, j⟩ := jr_tup S1 r1 (.inl rfl)
    exact .inr ⟨a, e1, e2, Pst.now p1 S1 _ j⟩
  | ktp xs =>
    obtain ⟨a, e1, e2, j⟩ := jr_tup S1 r1 (.inr rfl)
    exact .inr ⟨a, e1, e2, Pst.now p1 S1 _ j⟩
  | fls xs =>
    obtain ⟨a, e1, e2, j⟩ := jr_lst S1 r1 (.inl rfl)
    exact .inl ⟨a, e1, e2, Pst.now p1 S1 _ j⟩
  | frz xs =>
    obtain ⟨a, e1, e2, j⟩ := jr_lst S1 r1 (.inr rfl)
    exact .inl ⟨a, e1, e2, Pst.now p1 S1 _ j⟩
  | ref l =>
    have p' : Pst X.K c (CI X.K R) W1 (match h1[l]? with | some (.lst xs) => ok (.dyn l (xs.length + 1)) h1 | _ => none) := p1
    cases hl : h1[l]? with
    | none =>
      rw [hl] at p'
      exact p'.elim
    | some o =>
      rw [hl] at p'
      cases o with
      | lst xs =>
        obtain ⟨a, vs, e1, e2, e3, t⟩ := S1.lstAt hl r1
        exact .inl ⟨a, e1, ⟨vs, .inl (.inl e3)⟩, Pst.now p' S1 _ ⟨a, e2, rfl⟩⟩
      | dead => exact p'.elim
      | dK kvs => exact p'.elim
  | _ => exact p1.elim
theorem runOf_get {a : Int} {n i : Nat} {x : MV} (h : (runOf a n)[i]? = some x) : i < n ∧ x = .int (a + i) := by
  unfold runOf at h
  rw [List.getElem?_map] at h
  by_cases hi : i < n
  · rw [List.getElem?_range hi] at h
    exact ⟨hi, (Option.some.inj h).symm⟩
  · rw [List.getElem?_eq_none (by rw [List.length_range]; omega)] at h
    cases h
theorem runOf_len {a : Int} {n : Nat} : (runOf a n).length = n := by
  unfold runOf
  rw [List.length_map, List.length_range]
theorem jr_rng {a : Int} {n : Nat} : JR K W (.st (runOf a n)) (Itr a n) := fun i W' h' x' S' => by
  refine ⟨fun y hy => ?_, fun hi => by rw [runOf_len] at hi; exact hi⟩
  obtain ⟨h1, h2⟩ := runOf_get hy
  subst h2
  exact ⟨h1, fun v H2 ⟨eh, ev⟩ => ⟨W', eh.symm, Ext.refl _, S', by rw [ev]; exact .int _⟩⟩
theorem rng1F_ok {C : Wd → MIter → Prop} {xs : List MV} {h : MH} (p : Pst K c C W (rng1F xs h)) (S : Sim K W h) : ∃ n : Int, xs = [.int n] ∧ (n ≤ 1000000 ∧ -1000000 ≤ n) ∧ C W (.st (runOf 0 n.toNat)) := by
  unfold rng1F at p
  split at p
  · rename_i n
    by_cases q : n ≤ 1000000 ∧ -1000000 ≤ n
    · rw [if_pos q] at p
      exact ⟨n, rfl, q, Pst.now p S⟩
    · rw [if_neg q] at p
      exact p.elim
  · exact p.elim
theorem rng2F_ok {C : Wd → MIter → Prop} {xs : List MV} {h : MH} (p : Pst K c C W (rng2F xs h)) (S : Sim K W h) : ∃ n k : Int, xs = [.int n, .int k] ∧ ((n ≤ 1000000 ∧ -1000000 ≤ n) ∧ (k ≤ 1000000 ∧ -1000000 ≤ k)) ∧ C W (.st (runOf n (k - n).toNat)) := by
  unfold rng2F at p
  split at p
  · rename_i n k
    by_cases q : (n ≤ 1000000 ∧ -1000000 ≤ n) ∧ (k ≤ 1000000 ∧ -1000000 ≤ k)
    · rw [if_pos q] at p
      exact ⟨n, k, rfl, q, Pst.now p S⟩
    · rw [if_neg q] at p
      exact p.elim
  · exact p.elim
theorem rvs_one {x : MV} {vs : List V} (r : RVs K W [x] vs) : ∃ v, vs = [v] ∧ RV K W x v := by
  cases r with
  | cons r t =>
    cases t
    exact ⟨_, rfl, r⟩
theorem rvs_two {x y : MV} {vs : List V} (r : RVs K W [x, y] vs) : ∃ v w, vs = [v, w] ∧ RV K W x v ∧ RV K W y w := by
  cases r with
  | cons r t =>
    obtain ⟨w, rfl, r2⟩ := rvs_one t
    exact ⟨_, w, rfl, r, r2⟩
theorem im_rng1 {m : MM (List MV)} {p pos : Pos} (hg : Gl X "range") (hm : X.mg "range" = none) (ha : AM X c [a] m) (hs : starEach [a] X.env = [(false, eval a X.env)] := by rfl) : IM X c tg (.Call (.Name "range" p) [a] [] pos) (rng1 m) :=
  pi_wk (pi_range1 hg hm ha hs) fun σ H R ⟨W, h, s, e, S, rs, p⟩ => by
    subst e
    refine ⟨W, h, s, rfl, S, rs, p.bnd fun W1 h1 xs x1 S1 p1 vs r1 => ?_⟩
    obtain ⟨n, rfl, q, p'⟩ := rng1F_ok p1 S1
    obtain ⟨v, rfl, r⟩ := rvs_one r1
    exact ⟨n, by rw [rv_int r], by omega, by omega, p' _ jr_rng⟩
theorem im_rng2 {m : MM (List MV)} {p pos : Pos} (hg : Gl X "range") (hm : X.mg "range" = none) (ha : AM X c [a, b] m) (hs : starEach [a, b] X.env = [(false, eval a X.env), (false, eval b X.env)] := by rfl) (hs2 : starEach [b] X.env = [(false, eval b X.env)] := by rfl) :
    IM X c tg (.Call (.Name "range" p) [a, b] [] pos) (rng2 m) :=
  pi_wk (pi_range2 hg hm ha hs hs2) fun σ H R ⟨W, h, s, e, S, rs, p⟩ => by
    subst e
    refine ⟨W, h, s, rfl, S, rs, p.bnd fun W1 h1 xs x1 S1 p1 vs r1 => ?_⟩
    obtain ⟨n, k, rfl, q, p'⟩ := rng2F_ok p1 S1
    obtain ⟨v, w, rfl, r, r2⟩ := rvs_two r1
    exact ⟨n, k, by rw [rv_int r, rv_int r2], by omega, p' _ jr_rng⟩
end
/-! ### for, while -/
def forS (bd : MV → MT) : List MV → MT
  | [], s, h => some (.nx s h)
  | x :: xs, s, h => match bd x s h with
    | some (.nx s1 h1) => forS bd xs s1 h1
    | some (.cnt s1 h1) => forS bd xs s1 h1
    | some (.brk s1 h1) => some (.nx s1 h1)
    | some (.ret v h1) => some (.ret v h1)
    | some (.ex e h1) => some (.ex e h1)
    | none => none
def forL (bd : MV → MT) (l : Nat) : Nat → Nat → MT
  | 0, _, _, _ => none
  | n + 1, i, s, h => match h[l]? with
    | some (.lst xs) => match xs[i]? with
      | none => some (.nx s h)
      | some x => match bd x s h with
        | some (.nx s1 h1) => forL bd l n (i + 1) s1 h1
        | some (.cnt s1 h1) => forL bd l n (i + 1) s1 h1
        | some (.brk s1 h1) => some (.nx s1 h1)
        | some (.ret v h1) => some (.ret v h1)
        | some (.ex e h1) => some (.ex e h1)
        | none => none
    | _ => none
@[simp ↓] def turnM (g : MV → MS → Option MS) (m : MT) (x : MV) : MT := fun s h => match g x s with
  | some s1 => m s1 h
  | none => none
@[simp ↓] def forM (mi : MM MIter) (g : MV → MS → Option MS) (m : MT) : MT := fun s h => bndS (mi s h) fun it h1 => match it with
  | .st its => forS (turnM g m) its s h1
  | .dyn l n => forL (turnM g m) l n 0 s h1
def whlG (cd : MM Bool) (bd : MT) : Nat → MT
  | 0, _, _ => none
  | n + 1, s, h => bndS (cd s h) fun b h1 => if b = true then (match bd s h1 with
    | some (.nx s1 h2) => whlG cd bd n s1 h2
    | some (.cnt s1 h2) => whlG cd bd n s1 h2
    | some (.brk s1 h2) => some (.nx s1 h2)
    | some (.ret v h2) => some (.ret v h2)
    | some (.ex e h2) => some (.ex e h2)
    | none => none) else some (.nx s h1)
section
variable {X : Cx} {c : XC} {tg e : Expr} {K : PySem.W.Frag} {W : Wd} {pos : Pos} {body : List Stmt}
theorem s_for {mi : MM MIter} {t : TG} {g : MV → MS → Option MS} {m : MT} (hp : PassesOwn (model X.prog X.w) X.A X.env X.xe) (hc : X.calm = true) (hi : IM X c tg e mi) (hg : PG X tg t) (ho : TgM X.K t g) (hb : SsM X c body m)
    (hs : ∀ x, foldedSetIterable e X.env x = pure x := by intro _; rfl) : SM X c (.For tg e body [] pos) (forM mi g m) := ps_wk (ps_for hp hc hi hg hb hs) fun D σ H ⟨W, h, s, e, S, rs, p⟩ => by
  subst e
  refine ⟨W, h, s, rfl, S, rs, p.bnd fun W1 h1 it x1 S1 p1 J jr => ?_⟩
  cases it with
  | st its =>
    refine ⟨fun i n σ' H' => n = its.length - i ∧ i ≤ its.length ∧ ∃ W' h' s', W'.H = H' ∧ Ext W1 W' ∧ Sim X.K W' h' ∧ RS X.K W' s' σ' ∧ PstS X.K c D W' (forS (turnM g m) (its.drop i) s' h'),
      ⟨its.length, rfl, Nat.zero_le _, W1, h1, s, rfl, Ext.refl _, S1, rs.mono x1, p1⟩, ?_⟩
    rintro i n σ' H' ⟨hn, hle, W', h', s', rfl, x', S', rs', p'⟩
    obtain ⟨j1, j2⟩ := jr i W' h' x' S'
    by_cases hi : i < its.length
    · obtain ⟨jg, jy⟩ := j1 its[i] (List.getElem?_eq_getElem hi)
      rw [List.drop_eq_getElem_cons hi] at p'
      refine .inr ⟨jg, fun σ2 H2 => ∃ W2 h2 s2, W2.H = H2 ∧ Ext W1 W2 ∧ Sim X.K W2 h2 ∧ RS X.K W2 s2 σ2 ∧ PstS X.K c D W2 (forS (turnM g m) (its.drop (i + 1)) s2 h2), fun σ2 H2 w => ⟨its.length - (i + 1), by omega, rfl, by omega, w⟩, fun v H2 y => ?_⟩
      obtain ⟨W2, rfl, x2, S2, r2⟩ := jy v H2 y
      have p2 : PstS X.K c D W2 (forS (turnM g m) (its[i] :: its.drop (i + 1)) s' h') := PstS.shift x2 p'
      unfold forS turnM at p2
      cases hgx : g its[i] s' with
      | none =>
        rw [hgx] at p2
        exact p2.elim
      | some s3 =>
        rw [hgx] at p2
        refine ho W2 s' s3 σ' _ v _ (rs'.mono x2) r2 hgx fun σ3 rs3 => ⟨W2, h', s3, rfl, S2, rs3, ?_⟩
        cases hm : m s3 h' with
        | none =>
          simp only [hm] at p2
          exact p2.elim
        | some r =>
          simp only [hm] at p2
          cases r with
          | nx s4 h4 => exact fun W4 σ4 x4 S4 rs4 => ⟨W4, h4, s4, rfl, (x'.trans x2).trans x4, S4, rs4, PstS.shift x4 p2⟩
          | cnt s4 h4 => exact fun W4 σ4 x4 S4 rs4 => ⟨W4, h4, s4, rfl, (x'.trans x2).trans x4, S4, rs4, PstS.shift x4 p2⟩
          | brk s4 h4 => exact p2
          | ret x4 h4 => exact p2
          | ex e4 h4 => exact p2
    · have e0 : its.drop i = [] := List.drop_eq_nil_of_le (by omega)
      rw [e0] at p'
      exact .inl ⟨j2 (by omega), p' W' σ' (Ext.refl _) S' rs'⟩
  | dyn l k =>
    obtain ⟨a, ea, rfl⟩ := jr
    have hl1 : l < W1.n := by
      rw [S1.n]
      exact S1.lt l a ea
    refine ⟨fun i n σ' H' => ∃ W' h' s', W'.H = H' ∧ Ext W1 W' ∧ Sim X.K W' h' ∧ RS X.K W' s' σ' ∧ PstS X.K c D W' (forL (turnM g m) l n i s' h'),
      ⟨k, W1, h1, s, rfl, Ext.refl _, S1, rs.mono x1, p1⟩, ?_⟩
    rintro i n σ' H' ⟨W', h', s', rfl, x', S', rs', p'⟩
    cases n with
    | zero => exact p'.elim
    | succ n =>
      unfold forL at p'
      cases hl : h'[l]? with
      | none =>
        rw [hl] at p'
        exact p'.elim
      | some o =>
        rw [hl] at p'
        cases o with
        | dead => exact p'.elim
        | dK kvs => exact p'.elim
        | lst xs =>
          obtain ⟨a', ea'⟩ := S'.live l _ hl (by intro z; cases z)
          obtain rfl : a' = a := by
            rcases x'.agree l hl1 with q | q
            · rw [q, ea] at ea'
              exact (Option.some.inj ea').symm
            · rw [q] at ea'
              cases ea'
          obtain ⟨o2, e2, ro⟩ := S'.obj l a' ea'
          rw [hl] at e2
          cases e2
          obtain ⟨vs, hv, t⟩ := ro
          have hsq : SqL X.K W'.H a' vs := .inl (.inl hv)
          have p2 : PstS X.K c D W' (match xs[i]? with
            | none => some (.nx s' h')
            | some x => match turnM g m x s' h' with
              | some (.nx s1 h1) => forL (turnM g m) l n (i + 1) s1 h1
              | some (.cnt s1 h1) => forL (turnM g m) l n (i + 1) s1 h1
              | some (.brk s1 h1) => some (.nx s1 h1)
              | some (.ret v h1) => some (.ret v h1)
              | some (.ex e h1) => some (.ex e h1)
              | none => none) := p'
          cases hx : xs[i]? with
          | none =>
            rw [hx] at p2
            have hi : vs.length ≤ i := by
              rw [← t.length]
              exact List.getElem?_eq_none_iff.mp hx
            exact .inl ⟨⟨vs, hsq, hi⟩, p2 W' σ' (Ext.refl _) S' rs'⟩
          | some x =>
            rw [hx] at p2
            obtain ⟨v, hvi, rv⟩ := t.get hx
            refine .inr ⟨⟨vs, v, hsq, hvi⟩, fun σ2 H2 => ∃ W2 h2 s2, W2.H = H2 ∧ Ext W1 W2 ∧ Sim X.K W2 h2 ∧ RS X.K W2 s2 σ2 ∧ PstS X.K c D W2 (forL (turnM g m) l n (i + 1) s2 h2), fun σ2 H2 w => ⟨n, Nat.lt_succ_self _, w⟩, fun v2 H2 y => ?_⟩
            obtain ⟨rfl, y2⟩ := y
            have := y2 vs hsq
            rw [hvi] at this
            cases this
            unfold turnM at p2
            cases hgx : g x s' with
            | none =>
              simp only [hgx] at p2
              exact p2.elim
            | some s3 =>
              simp only [hgx] at p2
              refine ho W' s' s3 σ' _ v _ rs' rv hgx fun σ3 rs3 => ⟨W', h', s3, rfl, S', rs3, ?_⟩
              cases hm : m s3 h' with
              | none =>
                simp only [hm] at p2
                exact p2.elim
              | some r =>
                simp only [hm] at p2
                cases r with
                | nx s4 h4 => exact fun W4 σ4 x4 S4 rs4 => ⟨W4, h4, s4, rfl, x'.trans x4, S4, rs4, PstS.shift x4 p2⟩
                | cnt s4 h4 => exact fun W4 σ4 x4 S4 rs4 => ⟨W4, h4, s4, rfl, x'.trans x4, S4, rs4, PstS.shift x4 p2⟩
                | brk s4 h4 => exact p2
                | ret x4 h4 => exact p2
                | ex e4 h4 => exact p2
theorem s_while {cd : Expr} {mc : MM Bool} {m : MT} (n : Nat) (hp : PassesOwn (model X.prog X.w) X.A X.env X.xe) (hc : BM X c cd mc) (hb : SsM X c body m) : SM X c (.While cd body [] pos) (whlG mc m n) := ps_wk (ps_while hp hc hb) fun D σ H ⟨W, h, s, e, S, rs, p⟩ => by
  subst e
  refine ⟨fun k σ' H' => ∃ W' h' s', W'.H = H' ∧ Sim X.K W' h' ∧ RS X.K W' s' σ' ∧ PstS X.K c D W' (whlG mc m k s' h'), ⟨n, W, h, s, rfl, S, rs, p⟩, ?_⟩
  rintro k σ' H' ⟨W', h', s', rfl, S', rs', p'⟩
  cases k with
  | zero => exact p'.elim
  | succ k =>
    refine ⟨W', h', s', rfl, S', rs', p'.bnd fun W1 h1 b x1 S1 p1 => ?_⟩
    cases b with
    | false => exact p1 W1 σ' (Ext.refl _) S1 (rs'.mono x1)
    | true =>
      rw [if_pos rfl] at p1
      refine iteT (B := D.nx σ' W1.H) ⟨fun σ2 H2 => ∃ W2 h2 s2, W2.H = H2 ∧ Sim X.K W2 h2 ∧ RS X.K W2 s2 σ2 ∧ PstS X.K c D W2 (whlG mc m k s2 h2), fun σ2 H2 w => ⟨k, Nat.lt_succ_self _, w⟩, W1, h1, s', rfl, S1, rs'.mono x1, ?_⟩
      cases hm : m s' h1 with
      | none =>
        simp only [hm] at p1
        exact p1.elim
      | some r =>
        simp only [hm] at p1
        cases r with
        | nx s4 h4 => exact fun W4 σ4 x4 S4 rs4 => ⟨W4, h4, s4, rfl, S4, rs4, PstS.shift x4 p1⟩
        | cnt s4 h4 => exact fun W4 σ4 x4 S4 rs4 => ⟨W4, h4, s4, rfl, S4, rs4, PstS.shift x4 p1⟩
        | brk s4 h4 => exact p1
        | ret x4 h4 => exact p1
        | ex e4 h4 => exact p1
end
end Mi
set_option maxHeartbeats 2000000
/-! Mi: comprehensions, own defs called, what stands still. -/
namespace Mi
open PySem L2
/-! ### comprehensions -/
theorem set_comm {α : Type} {l : List α} {i j : Nat} {a b : α} (h : i ≠ j) : (l.set i a).set j b = (l.set j b).set i a := List.set_comm a b h
theorem wipe_set {σ : St} {i : Nat} {o : Option V} : ∀ {vs : List Nat}, i ∈ vs → L2.wipe (σ.set i o) vs = L2.wipe σ vs
  | [], h => by cases h
  | v :: vs, h => by
    show (L2.wipe (σ.set i o) vs).set v none = (L2.wipe σ vs).set v none
    have go : ∀ {vs : List Nat}, ¬ i ∈ vs → L2.wipe (σ.set i o) vs = (L2.wipe σ vs).set i o := fun {vs} => by
      induction vs with
      | nil => exact fun _ => rfl
      | cons w ws ih =>
        intro hn
        have h1 : ¬ i ∈ ws := fun z => hn (List.mem_cons_of_mem _ z)
        have h2 : i ≠ w := fun z => hn (by rw [z]; exact List.mem_cons_self ..)
        show (L2.wipe (σ.set i o) ws).set w none = ((L2.wipe σ ws).set w none).set i o
        rw [ih h1, set_comm h2]
    by_cases hm : i ∈ vs
    · rw [wipe_set hm]
    · rcases List.mem_cons.mp h with e | e
      · rw [go hm, e, List.set_set]
      · exact absurd e hm
theorem wipe_get {σ : St} {i : Nat} : ∀ {vs : List Nat}, (L2.wipe σ vs)[i]? = if i ∈ vs ∧ i < σ.length then some none else σ[i]?
  | [] => by
    show σ[i]? = _
    rw [if_neg (by simp)]
  | v :: vs => by
    show ((L2.wipe σ vs).set v none)[i]? = _
    by_cases hv : v = i
    · subst hv
      by_cases hl : v < σ.length
      · rw [List.getElem?_set_self (by rw [wipe_length]; exact hl), if_pos ⟨List.mem_cons_self .., hl⟩]
      · rw [if_neg (fun z => hl z.2), List.getElem?_eq_none (by rw [List.length_set, wipe_length]; omega), List.getElem?_eq_none (by omega)]
    · rw [List.getElem?_set_ne hv, wipe_get (vs := vs)]
      by_cases hm : i ∈ vs ∧ i < σ.length
      · rw [if_pos hm, if_pos ⟨List.mem_cons_of_mem _ hm.1, hm.2⟩]
      · rw [if_neg hm, if_neg fun z => hm ⟨(List.mem_cons.mp z.1).resolve_left fun y => hv y.symm, z.2⟩]
theorem wipe_wipe {σ : St} {vs : List Nat} : L2.wipe (L2.wipe σ vs) vs = L2.wipe σ vs := by
  apply List.ext_getElem?
  intro i
  rw [wipe_get, wipe_get, wipe_length]
  by_cases h : i ∈ vs ∧ i < σ.length
  · rw [if_pos h, if_pos h]
  · rw [if_neg h]
def lcS (g : MV → MS → Option MS) (cd : MM Bool) (el : ME) (s0 : MS) : List MV → List MV → MH → Res (List MV)
  | [], acc, h => ok acc h
  | x :: xs, acc, h => match g x s0 with
    | none => none
    | some s1 => (cd s1 h).bnd fun b h1 => if b = true then (el s1 h1).bnd fun y h2 => if acc.length < lim then lcS g cd el s0 xs (acc ++ [y]) h2 else none else lcS g cd el s0 xs acc h1
def lcL (g : MV → MS → Option MS) (cd : MM Bool) (el : ME) (s0 : MS) (l : Nat) : Nat → Nat → List MV → MH → Res (List MV)
  | 0, _, _, _ => none
  | n + 1, i, acc, h => match h[l]? with
    | some (.lst zs) => match zs[i]? with
      | none => ok acc h
      | some x => match g x s0 with
        | none => none
        | some s1 => (cd s1 h).bnd fun b h1 => if b = true then (el s1 h1).bnd fun y h2 => if acc.length < lim then lcL g cd el s0 l n (i + 1) (acc ++ [y]) h2 else none else lcL g cd el s0 l n (i + 1) acc h1
    | _ => none
@[simp ↓] def lcM (mi : MM MIter) (vs : List Nat) (g : MV → MS → Option MS) (cd : MM Bool) (el : ME) : MM (List MV) := fun s h => (mi s h).bnd fun it h1 => match it with
  | .st its => lcS g cd el (wipeM s vs) its [] h1
  | .dyn l n => lcL g cd el (wipeM s vs) l n 0 [] h1
section
variable {K : PySem.W.Frag} {c : XC} {α β : Type}
theorem Pst.bnd2 {C1 : Wd → α → Prop} {C2 : Wd → β → Prop} {W W0 : Wd} {r : Res α} {k : α → MH → Res β} (p : Pst K c C2 W0 (r.bnd k)) (x0 : Ext W0 W)
    (i : ∀ W1 h1 a, Ext W W1 → Sim K W1 h1 → Pst K c C2 W0 (k a h1) → C1 W1 a) : Pst K c C1 W r := by
  match r, p with
  | some (.ok a h), p => exact fun W2 x2 s => i W2 h a x2 s p
  | some (.ex e h), p => exact PX.shift x0 p
/-- a comprehension's target -/
def TgC (K : PySem.W.Frag) (t : TG) (g : MV → MS → Option MS) (vs : List Nat) : Prop := ∀ (W : Wd) (s s' : MS) (σ : St) (x : MV) (v : V) (Q : St → Hp → Prop), RS K W s σ → RV K W x v → g x s = some s' → (∀ σ', RS K W s' σ' → L2.wipe σ' vs = L2.wipe σ vs → Q σ' W.H) → t v σ W.H Q
theorem tc_one {i : Nat} {vs : List Nat} (hi : i ∈ vs) : TgC K (gName i) (one i) vs := fun W s s' σ x v Q rs r e q => by
  cases e
  exact q _ (rs.set r i) (wipe_set hi)
theorem tc_all {vs : List Nat} : ∀ (is : List Nat), (∀ i ∈ is, i ∈ vs) → ∀ (W : Wd) (s s' : MS) (σ : St) (xs : List MV) (ws : List V) (Q : St → Hp → Prop), RS K W s σ → RVs K W xs ws → putAll is xs s = some s' →
    (∀ σ', RS K W s' σ' → L2.wipe σ' vs = L2.wipe σ vs → Q σ' W.H) → gNames is ws σ W.H Q
  | [], _, W, s, s', σ, [], _, Q, rs, .nil, e, q => by
    cases e
    exact ⟨rfl, q σ rs rfl⟩
  | i :: is, hm, W, s, s', σ, x :: xs, _, Q, rs, .cons r t, e, q => ⟨_, _, rfl, tc_all is (fun j hj => hm j (List.mem_cons_of_mem _ hj)) W _ s' _ xs _ Q (rs.set r i) t e fun σ' rs' hw => q σ' rs' (hw.trans (wipe_set (hm i (List.mem_cons_self ..))))⟩
  | [], _, _, _, _, _, _ :: _, _, _, _, _, e, _ => by cases e
  | _ :: _, _, _, _, _, _, [], _, _, _, _, e, _ => by cases e
theorem tc_tup {vs : List Nat} (is : List Nat) (hm : ∀ i ∈ is, i ∈ vs) : TgC K (gTup K is.length (gNames is)) (unp is) vs := fun W s s' σ x v Q rs r e q => by
  cases x <;> first | (cases e; done) | skip
  rename_i xs
  obtain ⟨a, ws, rfl, hq, t⟩ := tup_sq r
  exact ⟨a, ws, rfl, hq, by rw [← t.length]; exact putAll_len e, tc_all is hm W s s' σ xs ws Q rs t e q⟩
/-- one turn of a comprehension -/
theorem lc_turn {W0 W : Wd} {h : MH} {s0 : MS} {σ : St} {vs : List Nat} {D : Addr} {acc : List MV} {aV : List V} {g : MV → MS → Option MS} {cd : MM Bool} {el : ME} {t : TG} {x : MV} {v : V} {C : Wd → List MV → Prop} {Nx : Hp → Prop}
    {k : List MV → MH → Res (List MV)} (ho : TgC K t g vs) (x0 : Ext W0 W) (S : Sim K W h) (hD0 : W0.H D = none) (hh : W.hid D) (hD : W.H D = some (.lst aV)) (ra : RVs K W acc aV) (rs : RS K W0 s0 (L2.wipe σ vs)) (r : RV K W x v)
    (p : Pst K c C W0 (match g x s0 with
      | none => none
      | some s1 => (cd s1 h).bnd fun b h1 => if b = true then (el s1 h1).bnd fun y h2 => if acc.length < lim then k (acc ++ [y]) h2 else none else k acc h1))
    (nx : ∀ W' h' acc' aV', Ext W0 W' → Sim K W' h' → W'.hid D → W'.H D = some (.lst aV') → RVs K W' acc' aV' → Pst K c C W0 (k acc' h') → Nx W'.H) :
    t v (L2.wipe σ vs) W.H fun σ2 H2 => L2.wipe σ2 vs = L2.wipe σ vs ∧ tMB K c cd σ2 H2 fun b H3 => if b = true then tM K c el σ2 H3 fun y H4 => ∃ acc, H4 D = some (.lst acc) ∧ acc.length < sizeLine ∧ Nx (upd H4 D (.lst (acc ++ [y]))) else Nx H3 := by
  cases hg : g x s0 with
  | none =>
    rw [hg] at p
    exact p.elim
  | some s1 =>
    rw [hg] at p
    refine ho W s0 s1 _ x v _ (rs.mono x0) r hg fun σ2 rs2 hw => ⟨hw.trans wipe_wipe, W, h, s1, rfl, S, rs2, ?_⟩
    refine Pst.bnd2 p x0 fun W1 h1 b x1 S1 p1 => ?_
    obtain ⟨hD1, hh1⟩ := x1.hidf D _ hh hD
    cases b with
    | false => exact nx W1 h1 acc aV (x0.trans x1) S1 hh1 hD1 (ra.mono x1) p1
    | true =>
      refine iteT (B := Nx W1.H) ⟨W1, h1, s1, rfl, S1, rs2.mono x1, ?_⟩
      rw [if_pos rfl] at p1
      refine Pst.bnd2 p1 (x0.trans x1) fun W2 h2 y x2 S2 p2 u r2 => ?_
      obtain ⟨hD2, hh2⟩ := x2.hidf D _ hh1 hD1
      by_cases hl : acc.length < lim
      · rw [if_pos hl] at p2
        refine ⟨aV, hD2, Nat.lt_of_lt_of_le (by rw [← ra.length]; exact hl) (lim_line (Nat.le_refl _)), ?_⟩
        exact nx (W2.wr D (.lst (aV ++ [u]))) h2 (acc ++ [y]) (aV ++ [u]) (Ext.wrh hh2 S2 ((x0.trans x1).trans x2) hD0) (S2.wrh hh2) hh2 upd_same ((((ra.mono x1).mono x2).append (.one r2)).wrh hh2) p2
      · rw [if_neg hl] at p2
        exact p2.elim
end
section
variable {X : Cx} {c : XC}
theorem lc_of {K : PySem.W.Frag} {vs : List Nat} {mi : MM MIter} {t : TG} {g : MV → MS → Option MS} {cd : MM Bool} {el : ME} (ho : TgC K t g vs) {σ : St} {H : Hp} {Q : VK} (q : tML K c (lcM mi vs g cd el) σ H Q) : tLc (tMI K c mi) t (tMB K c cd) (tM K c el) vs σ H Q := by
  obtain ⟨W, h, s, e, S, rs, p⟩ := q
  subst e
  refine ⟨W, h, s, rfl, S, rs, p.bnd fun W1 h1 it x1 S1 p1 J jr D hD => ?_⟩
  have rs1 : RS K W1 (wipeM s vs) (L2.wipe σ vs) := (rs.mono x1).wipe _
  have xh : Ext W1 (W1.hide D (.lst [])) := Ext.hide S1 hD
  have Sh : Sim K (W1.hide D (.lst [])) h1 := S1.hide hD
  have fin : ∀ (W' : Wd) (h' : MH) (acc : List MV) (aV : List V), Ext W1 W' → Sim K W' h' → W'.hid D → W'.H D = some (.lst aV) → RVs K W' acc aV → Pst K c (CL K Q) W1 (ok acc h') → Q (.ref D) W'.H := fun W' h' acc aV x' S' hh' hD' ra p' => by
    have q := p' (W'.bare D) (x'.bare hD) (S'.bare hh') aV D (ra.bare hh') (if_pos rfl)
    rw [Wd.bare_upd hD'] at q
    exact q
  cases it with
  | st its =>
    refine ⟨fun i n H' => n = its.length - i ∧ i ≤ its.length ∧ ∃ W' h' acc aV, W'.H = H' ∧ Ext W1 W' ∧ Sim K W' h' ∧ W'.hid D ∧ W'.H D = some (.lst aV) ∧ RVs K W' acc aV ∧ Pst K c (CL K Q) W1 (lcS g cd el (wipeM s vs) (its.drop i) acc h'),
      ⟨its.length, rfl, Nat.zero_le _, W1.hide D (.lst []), h1, [], [], rfl, xh, Sh, .inl rfl, upd_same, .nil, p1⟩, ?_⟩
    rintro i n H' ⟨hn, hle, W', h', acc, aV, rfl, x', S', hh', hD', ra, p'⟩
    obtain ⟨j1, j2⟩ := jr i W' h' x' S'
    by_cases hi : i < its.length
    · obtain ⟨jg, jy⟩ := j1 its[i] (List.getElem?_eq_getElem hi)
      rw [List.drop_eq_getElem_cons hi] at p'
      refine .inr ⟨jg, fun H2 => ∃ W2 h2 acc2 aV2, W2.H = H2 ∧ Ext W1 W2 ∧ Sim K W2 h2 ∧ W2.hid D ∧ W2.H D = some (.lst aV2) ∧ RVs K W2 acc2 aV2 ∧ Pst K c (CL K Q) W1 (lcS g cd el (wipeM s vs) (its.drop (i + 1)) acc2 h2),
        fun H2 w => ⟨its.length - (i + 1), by omega, rfl, by omega, w⟩, fun v H2 y => ?_⟩
      obtain ⟨W2, rfl, x2, S2, r2⟩ := jy v H2 y
      obtain ⟨hD2, hh2⟩ := x2.hidf D _ hh' hD'
      unfold lcS at p'
      exact lc_turn ho (x'.trans x2) S2 hD hh2 hD2 (ra.mono x2) rs1 r2 p' fun W3 h3 acc3 aV3 x3 S3 hh3 hD3 ra3 p3 => ⟨W3, h3, acc3, aV3, rfl, x3, S3, hh3, hD3, ra3, p3⟩
    · have e0 : its.drop i = [] := List.drop_eq_nil_of_le (by omega)
      rw [e0] at p'
      exact .inl ⟨j2 (by omega), fin W' h' acc aV x' S' hh' hD' ra p'⟩
  | dyn l k =>
    obtain ⟨a, ea, rfl⟩ := jr
    have hl1 : l < W1.n := by
      rw [S1.n]
      exact S1.lt l a ea
    refine ⟨fun i n H' => ∃ W' h' acc aV, W'.H = H' ∧ Ext W1 W' ∧ Sim K W' h' ∧ W'.hid D ∧ W'.H D = some (.lst aV) ∧ RVs K W' acc aV ∧ Pst K c (CL K Q) W1 (lcL g cd el (wipeM s vs) l n i acc h'),
      ⟨k, W1.hide D (.lst []), h1, [], [], rfl, xh, Sh, .inl rfl, upd_same, .nil, p1⟩, ?_⟩
    rintro i n H' ⟨W', h', acc, aV, rfl, x', S', hh', hD', ra, p'⟩
    cases n with
    | zero => exact p'.elim
    | succ n =>
      unfold lcL at p'
      cases hl : h'[l]? with
      | none =>
        rw [hl] at p'
        exact p'.elim
      | some o =>
        rw [hl] at p'
        cases o with
        | dead => exact p'.elim
        | dK kvs => exact p'.elim
        | lst zs =>
          obtain ⟨a', ea'⟩ := S'.live l _ hl (by intro z; cases z)
          obtain rfl : a' = a := by
            rcases x'.agree l hl1 with q | q
            · rw [q, ea] at ea'
              exact (Option.some.inj ea').symm
            · rw [q] at ea'
              cases ea'
          obtain ⟨o2, e2, ro⟩ := S'.obj l a' ea'
          rw [hl] at e2
          cases e2
          obtain ⟨ws, hv, t⟩ := ro
          have hsq : SqL K W'.H a' ws := .inl (.inl hv)
          dsimp only at p'
          cases hx : zs[i]? with
          | none =>
            rw [hx] at p'
            have hi : ws.length ≤ i := by
              rw [← t.length]
              exact List.getElem?_eq_none_iff.mp hx
            exact .inl ⟨⟨ws, hsq, hi⟩, fin W' h' acc aV x' S' hh' hD' ra p'⟩
          | some x =>
            rw [hx] at p'
            obtain ⟨v, hvi, rv⟩ := t.get hx
            refine .inr ⟨⟨ws, v, hsq, hvi⟩, fun H2 => ∃ W2 h2 acc2 aV2, W2.H = H2 ∧ Ext W1 W2 ∧ Sim K W2 h2 ∧ W2.hid D ∧ W2.H D = some (.lst aV2) ∧ RVs K W2 acc2 aV2 ∧ Pst K c (CL K Q) W1 (lcL g cd el (wipeM s vs) l n (i + 1) acc2 h2),
              fun H2 w => ⟨n, Nat.lt_succ_self _, w⟩, fun v2 H2 y => ?_⟩
            obtain ⟨rfl, y2⟩ := y
            have := y2 ws hsq
            rw [hvi] at this
            cases this
            exact lc_turn ho x' S' hD hh' hD' ra rs1 rv p' fun W3 h3 acc3 aV3 x3 S3 hh3 hD3 ra3 p3 => ⟨W3, h3, acc3, aV3, rfl, x3, S3, hh3, hD3, ra3, p3⟩
theorem lm_lc {elt tg iter : Expr} {ifs : List Expr} {scope : Scope} {own : List (Str × Nat)} {pos : Pos} {mi : MM MIter} {t : TG} {g : MV → MS → Option MS} {cd : MM Bool} {el : ME} (ho : TgC X.K t g (own.map (·.2)))
    (h : PE X (.ListComp elt [⟨tg, iter, ifs, 0⟩] scope pos) (tLc (tMI X.K c mi) t (tMB X.K c cd) (tM X.K c el) (own.map (·.2)))) : LM X c (.ListComp elt [⟨tg, iter, ifs, 0⟩] scope pos) (lcM mi (own.map (·.2)) g cd el) := pe_wk h fun _ _ _ q => lc_of ho q
theorem s_lcF {elt tg iter : Expr} {ifs : List Expr} {scope : Scope} {own : List (Str × Nat)} {pos spos py : Pos} {y : Str} {i : Nat} {mi : MM MIter} {t : TG} {g : MV → MS → Option MS} {cd : MM Bool} {el : ME} (ho : TgC X.K t g (own.map (·.2)))
    (h : PS X (.Assign [.Name y py] (.ListComp elt [⟨tg, iter, ifs, 0⟩] scope pos) spos) (tAsg (tLc (tMI X.K c mi) t (tMB X.K c cd) (tM X.K c el) (own.map (·.2))) (gName i))) : SM X c (.Assign [.Name y py] (.ListComp elt [⟨tg, iter, ifs, 0⟩] scope pos) spos) (setS i (flsM (lcM mi (own.map (·.2)) g cd el))) :=
  ps_wk h fun D σ H ⟨W, h, s, e, S, rs, p⟩ => by
    subst e
    exact lc_of ho (fls_of ⟨W, h, s, rfl, S, rs, p.bnd fun W1 h1 y x1 S1 p1 v r1 => p1 W1 _ (Ext.refl _) S1 ((rs.mono x1).set r1 i)⟩)
theorem s_lcR {elt tg iter : Expr} {ifs : List Expr} {scope : Scope} {own : List (Str × Nat)} {pos spos py : Pos} {y : Str} {i : Nat} {mi : MM MIter} {t : TG} {g : MV → MS → Option MS} {cd : MM Bool} {el : ME} (ho : TgC X.K t g (own.map (·.2)))
    (h : PS X (.Assign [.Name y py] (.ListComp elt [⟨tg, iter, ifs, 0⟩] scope pos) spos) (tAsg (tLc (tMI X.K c mi) t (tMB X.K c cd) (tM X.K c el) (own.map (·.2))) (gName i))) : SM X c (.Assign [.Name y py] (.ListComp elt [⟨tg, iter, ifs, 0⟩] scope pos) spos) (setS i (refM (lcM mi (own.map (·.2)) g cd el))) :=
  ps_wk h fun D σ H ⟨W, h, s, e, S, rs, p⟩ => by
    subst e
    exact lc_of ho (ref_of ⟨W, h, s, rfl, S, rs, p.bnd fun W1 h1 y x1 S1 p1 v r1 => p1 W1 _ (Ext.refl _) S1 ((rs.mono x1).set r1 i)⟩)
theorem pts_M {m : MM Bool} {cx : Expr} (h : BM X c cx m) : PTs X [cx] (tMB X.K c m) := pts_one h
theorem pts_y : PTs X [] (tMB X.K c yesT) := ⟨fun pins s σ H Q I h => pts_nil.run pins s σ H Q I (by
  obtain ⟨W, h, s, e, S, rs, p⟩ := h
  subst e
  exact p W (Ext.refl _) S)⟩
end
/-! ### own defs -/
abbrev MF := List MV → MH → Res MV
@[simp ↓] def noex (r : Res MV) : Res MV := match r with
  | some (.ex _ _) => none
  | r => r
theorem noex_is {a : MV} {h : MH} : noex (ok a h) = ok a h := rfl
/-- a def's mirror, by its body's: np parameters, n slots -/
@[simp ↓] def defM (np n : Nat) (m : MT) : MF := fun xs h => if xs.length = np then (match m (xs.map some ++ List.replicate (n - np) none) h with
  | some (.nx _ h') => ok .non h'
  | some (.ret x h') => ok x h'
  | some (.ex e h') => some (.ex e h')
  | _ => none) else none
/-- its promise -/
def spM (K : PySem.W.Frag) (mg : Str → Option Value) (np : Nat) (f : MF) : Sp := fun vs H Q E => ∃ W h xs, W.H = H ∧ Sim K W h ∧ RVs K W xs vs ∧ xs.length = np ∧ Pst K ⟨mg, E⟩ (CV K Q) W (f xs h)
@[simp ↓] def callM (f : MF) (ds : List MV) (a : MM (List MV)) : ME := fun s h => (a s h).bnd fun xs h1 => noex (f (xs ++ ds) h1)
section
variable {P : Program} {w : World} {K : PySem.W.Frag} {mg : Str → Option Value} {base : Heap}
theorem body_ok {N : List Str} {vs : List V} {E : XK} {np : Nat} {m : MT} {Q : VK} {H : Hp} (q : spM K mg np (defM np N.length m) vs H Q E) : tS K ⟨mg, E⟩ m { nx := fun _ H' => Q .non H', rt := Q } (start N vs) H := by
  obtain ⟨W, h, xs, rfl, S, r, hl, p⟩ := q
  unfold defM at p
  rw [if_pos hl] at p
  refine ⟨W, h, xs.map some ++ List.replicate (N.length - np) none, rfl, S, ?_, ?_⟩
  · unfold L2.start
    rw [← r.length, hl]
    exact RS.start r _
  · cases hm : m (xs.map some ++ List.replicate (N.length - np) none) h with
    | none =>
      rw [hm] at p
      exact p.elim
    | some o =>
      rw [hm] at p
      cases o with
      | nx s1 h1 => exact fun W1 σ1 x1 S1 rs1 => p W1 x1 S1 _ .non
      | ret x h1 => exact fun W1 v x1 S1 r1 => p W1 x1 S1 v r1
      | brk s1 h1 => exact p.elim
      | cnt s1 h1 => exact p.elim
      | ex e h1 => exact p
/-- a def of the text, by the mirror of its body; no exception leaves it -/
theorem fn_mir {x qual : Str} {st : Stmt} {f : Addr} {fd : FuncData} {N ps : List Str} {k : Nat} {m : MT} (F : Fun K x qual st f fd) (S : FnScope N ps (defScope st))
    (hb : ∀ (cdv : Value) (A : Around) (outer : List Env) (s : Shared) (H : Hp) (E : XK), Room k (A.deeper (PyProof.Rows.envOfC qual (defScope st) s.heap.objs.size f cdv)) → SsM (cxOf CX0 P w K mg base N qual (defScope st) f cdv A outer s H E).nox ⟨mg, E⟩ (defBody st) m) :
    FnOk P w K mg base CX0 (k + 1) f fd ps (spM K mg ps.length (defM ps.length N.length m)) := by
  refine F.ok S (fun vs H Q E h => ?_) (fun cdv A outer s H vs Q E hr h => ?_)
  · obtain ⟨W, h, xs, _, _, r, hl, _⟩ := h
    rw [← r.length, hl]
  · exact ⟨_, hb cdv A outer s H E hr, body_ok h⟩
theorem fnd_mir {x qual : Str} {params : Arguments} {body : List Stmt} {scope : Scope} {dvs : List V} {kws : List (Str × V)} {f : Addr} {fd : FuncData} {N ps : List Str} {k : Nat} {m : MT} (F : FunD K x qual params body scope dvs kws f fd) (S : FnScope N ps scope)
    (hb : ∀ (cdv : Value) (A : Around) (outer : List Env) (s : Shared) (H : Hp) (E : XK), Room k (A.deeper (PyProof.Rows.envOfC qual scope s.heap.objs.size f cdv)) → SsM (cxOf CX0 P w K mg base N qual scope f cdv A outer s H E) ⟨mg, E⟩ body m) :
    FnOk P w K mg base CX0 (k + 1) f fd ps (spM K mg ps.length (defM ps.length N.length m)) := by
  refine F.ok S (fun vs H Q E h => ?_) (fun cdv A outer s H vs Q E hr h => ?_)
  · obtain ⟨W, h, xs, _, _, r, hl, _⟩ := h
    rw [← r.length, hl]
  · exact ⟨_, hb cdv A outer s H E hr, body_ok h⟩
theorem noex_ok {c c' : XC} {C : Wd → MV → Prop} {W : Wd} {r : Res MV} (p : Pst K c C W (noex r)) : Pst K c' C W r := by
  unfold noex at p
  match r, p with
  | some (.ok a h), p => exact p
end
section
variable {X : Cx} {c : XC} {k : Nat} {f : Addr} {fd : FuncData} {ps : List Str} {ds : List Value} {dvs : List V} {dms : List MV} {x : Str} {p pos : Pos} {e : Expr} {es : List Expr} {m : MM (List MV)} {np : Nat} {fM : MF}
theorem tCall_of {K : PySem.W.Frag} {mg : Str → Option Value} (hd : ∀ W, RVs K W dms dvs) (hn : ∀ xs h, (fM xs h).isSome = true → xs.length = np) {σ : St} {H : Hp} {Q : VK} (q : tM K c (callM fM dms m) σ H Q) : tCall (spM K mg np fM) dvs E0 (tMA K c m) σ H Q := by
  obtain ⟨W, h, s, e, S, rs, p⟩ := q
  subst e
  refine ⟨W, h, s, rfl, S, rs, p.bnd fun W1 h1 xs x1 S1 p1 vs r1 => ?_⟩
  refine ⟨W1, h1, xs ++ dms, rfl, S1, r1.append (hd W1), ?_, noex_ok p1⟩
  cases hf : fM (xs ++ dms) h1 with
  | none =>
    rw [hf] at p1
    exact p1.elim
  | some o => exact hn _ h1 (by rw [hf]; rfl)
theorem em_call (F : FnOk X.prog X.w X.K X.mg X.base CX0 k f fd ps (spM X.K X.mg np fM)) (hn : ∀ xs h, (fM xs h).isSome = true → xs.length = np) (hr : Room k X.A) (hg : Gl X x) (hm : X.mg x = some (.ref f)) (hk : PySem.W.keepIn X.K (.ref f) = true) (hb : Binds X.K fd ps ds) (hd : Vals dvs ds) (hd2 : ∀ W, RVs X.K W dms dvs)
    (ha : AM X c (e :: es) m) (hdb : (x == ("__debug__" : Str)) = false := by decide) (he : starEach (e :: es) X.env = (false, eval e X.env) :: starEach es X.env := by rfl) (hpl : (backTo pos (starEach es X.env)).any (·.1) = false := by rfl) :
    EM X c (.Call (.Name x p) (e :: es) [] pos) (callM fM dms m) := pe_wk (pe_call F hr hg hm hk hb hd pass0 ha hdb he hpl) fun σ H Q q => tCall_of hd2 hn q
theorem em_call0 (F : FnOk X.prog X.w X.K X.mg X.base CX0 k f fd ps (spM X.K X.mg np fM)) (hn : ∀ xs h, (fM xs h).isSome = true → xs.length = np) (hr : Room k X.A) (hg : Gl X x) (hm : X.mg x = some (.ref f)) (hk : PySem.W.keepIn X.K (.ref f) = true) (hb : Binds X.K fd ps ds) (hd : Vals dvs ds) (hd2 : ∀ W, RVs X.K W dms dvs)
    (hdb : (x == ("__debug__" : Str)) = false := by decide) : EM X c (.Call (.Name x p) [] [] pos) (callM fM dms nilA) := pe_wk (pe_call0 F hr hg hm hk hb hd pass0 hdb) fun σ H Q ⟨W, h, s, e, S, rs, p⟩ => by
  subst e
  show spM X.K X.mg np fM ([] ++ dvs) W.H Q E0
  refine ⟨W, h, dms, rfl, S, hd2 W, ?_, noex_ok p⟩
  have p' : Pst X.K c (CV X.K Q) W (noex (fM ([] ++ dms) h)) := p
  cases hf : fM dms h with
  | none =>
    rw [List.nil_append, hf] at p'
    exact p'.elim
  | some o => exact hn _ h (by rw [hf]; rfl)
theorem defM_len {n : Nat} {m : MT} {xs : List MV} {h : MH} (e : (defM np n m xs h).isSome = true) : xs.length = np := by
  unfold defM at e
  by_cases q : xs.length = np
  · exact q
  · rw [if_neg q] at e
    cases e
/-! keywords -/
def pick {α : Type} (is : List Nat) (l : List α) : List α := is.filterMap fun i => l[i]?
theorem RVs.pick {K : PySem.W.Frag} {W : Wd} {xs : List MV} {vs : List V} (r : RVs K W xs vs) : ∀ is : List Nat, RVs K W (Mi.pick is xs) (Mi.pick is vs)
  | [] => .nil
  | i :: is => by
    have ih := RVs.pick r is
    unfold Mi.pick at ih ⊢
    rw [List.filterMap_cons, List.filterMap_cons]
    cases hx : xs[i]? with
    | none =>
      have hv : vs[i]? = none := List.getElem?_eq_none (by rw [← r.length]; exact List.getElem?_eq_none_iff.mp hx)
      rw [hv]
      exact ih
    | some y =>
      obtain ⟨v, hv, rv⟩ := r.get hx
      rw [hv]
      exact .cons rv ih
theorem vals_pick {xs : List V} {us : List Value} (r : Vals xs us) : ∀ is : List Nat, Vals (Mi.pick is xs) (Mi.pick is us)
  | [] => .nil
  | i :: is => by
    have ih := vals_pick r is
    unfold Mi.pick at ih ⊢
    rw [List.filterMap_cons, List.filterMap_cons]
    cases hx : xs[i]? with
    | none =>
      rw [r.none_of hx]
      exact ih
    | some y =>
      obtain ⟨v, hv, rv⟩ := r.get hx
      rw [hv]
      exact .cons rv ih
@[simp ↓] def callKM (f : MF) (n k : Nat) (is : List Nat) (ds : List MV) (a kw : MM (List MV)) : ME := fun s h => (a s h).bnd fun xs h1 => (kw s h1).bnd fun zs h2 => if xs.length = n ∧ zs.length = k then noex (f (pick is (xs ++ zs ++ ds)) h2) else none
abbrev KM (X : Cx) (c : XC) (kws : List Keyword) (m : MM (List MV)) : Prop := PK X kws (tMA X.K c m)
theorem pk_wk {kws : List Keyword} {t t' : TA} (h : PK X kws t) (w : ∀ σ H Q, t' σ H Q → t σ H Q) : PK X kws t' := ⟨fun po pins s σ H Q I q => h.run po pins s σ H Q I (w _ _ _ q)⟩
theorem km_nil : KM X c [] nilA := pk_wk pk_nil fun σ H Q ⟨W, h, s, e, S, rs, p⟩ => by
  subst e
  exact p W (Ext.refl W) S [] .nil
theorem km_cons {ma : ME} {mr : MM (List MV)} {nm : Option Str} {kpos : Pos} {kws : List Keyword} (ha : EM X c e ma) (hr : KM X c kws mr) : KM X c (⟨nm, e, kpos⟩ :: kws) (consA ma mr) :=
  pk_wk (pk_cons ha hr) fun σ H Q ⟨W, h, s, e, S, rs, p⟩ => by
    subst e
    refine ⟨W, h, s, rfl, S, rs, p.bnd fun W1 h1 x x1 S1 p1 v r1 => ?_⟩
    exact ⟨W1, h1, s, rfl, S1, rs.mono x1, p1.bnd fun W2 h2 xs x2 S2 p2 vs r2 => p2 W2 (Ext.refl _) S2 _ (.cons (r1.mono x2) r2)⟩
/-- f(k = v, ..): keywords alone -/
theorem pe_kw0 {ks : List Str} {sp : Sp} {kws : List Keyword} {tk : TA} {g : List Value → List Value → List Value} {gV : List V → List V → List V} (F : FnOk X.prog X.w X.K X.mg X.base CX0 k f fd ps sp) (hr : Room k X.A) (hg : Gl X x) (hm : X.mg x = some (.ref f)) (hk : PySem.W.keepIn X.K (.ref f) = true)
    (hb : KBn X.K fd ps 0 ks g gV) (hkw : PK X kws tk) (hall : (backToKw pos (keywordEach kws X.env)).all (·.1.isSome) = true := by rfl) (hks : (backToKw pos (keywordEach kws X.env)).filterMap (·.1) = ks := by rfl)
    (hdb : (x == ("__debug__" : Str)) = false := by decide) (hpl : ((backTo pos (starEach [] X.env)).any (·.1) || (backToKw pos (keywordEach kws X.env)).any (·.1.isNone)) = false := by rfl) :
    PE X (.Call (.Name x p) [] kws pos) (tCallN 0 ks.length sp gV E0 tNil tk) := by
  refine ⟨fun pins s σ H Q I h => wpAny_Call_Name_kw (ld_glob I hg hm ?_ hdb)⟩
  refine PySem.W.callWith_KW0 (h₀ := X.base) I.ok.mod.kin hk hall (thn (hkw.run pos pins s σ H _ I h) fun ws s2 ⟨zs, H2, I2, rz, l1, l2, q2⟩ => ⟨I2.kIn, ?_⟩) hpl
  rw [hks]
  exact run_fnN (us := []) F hr hb pass0 I2 .nil rz l1 l2 q2
theorem em_callK {kk : Nat} {ks : List Str} {kws : List Keyword} {mk : MM (List MV)} {n : Nat} {is : List Nat} {g : List Value → List Value → List Value} (F : FnOk X.prog X.w X.K X.mg X.base CX0 k f fd ps (spM X.K X.mg np fM)) (hn : ∀ xs h, (fM xs h).isSome = true → xs.length = np) (hr : Room k X.A) (hg : Gl X x) (hm : X.mg x = some (.ref f))
    (hk : PySem.W.keepIn X.K (.ref f) = true) (hb : KBn X.K fd ps n ks g (fun vs zs => pick is (vs ++ zs ++ dvs))) (hd2 : ∀ W, RVs X.K W dms dvs) (ha : AM X c (e :: es) m) (hkw : KM X c kws mk) (hkk : ks.length = kk := by rfl) (hall : (backToKw pos (keywordEach kws X.env)).all (·.1.isSome) = true := by rfl) (hks : (backToKw pos (keywordEach kws X.env)).filterMap (·.1) = ks := by rfl)
    (hdb : (x == ("__debug__" : Str)) = false := by decide) (he : starEach (e :: es) X.env = (false, eval e X.env) :: starEach es X.env := by rfl)
    (hpl : ((backTo pos (starEach (e :: es) X.env)).any (·.1) || (backToKw pos (keywordEach kws X.env)).any (·.1.isNone)) = false := by rfl) :
    EM X c (.Call (.Name x p) (e :: es) kws pos) (callKM fM n kk is dms m mk) := pe_wk (pe_callN F hr hg hm hk hb pass0 ha hkw hall hks hdb he hpl) fun σ H Q ⟨W, h, s, e, S, rs, p⟩ => by
  subst e
  subst hkk
  refine ⟨W, h, s, rfl, S, rs, p.bnd fun W1 h1 xs x1 S1 p1 vs r1 => ?_⟩
  refine ⟨W1, h1, s, rfl, S1, rs.mono x1, p1.bnd fun W2 h2 zs x2 S2 p2 ws r2 => ?_⟩
  by_cases q : xs.length = n ∧ zs.length = ks.length
  · rw [if_pos q] at p2
    refine ⟨by rw [← r1.length]; exact q.1, by rw [← r2.length]; exact q.2, W2, h2, _, rfl, S2, (((r1.mono x2).append r2).append (hd2 W2)).pick is, ?_, noex_ok p2⟩
    cases hf : fM (pick is (xs ++ zs ++ dms)) h2 with
    | none =>
      rw [hf] at p2
      exact p2.elim
    | some o => exact hn _ h2 (by rw [hf]; rfl)
  · rw [if_neg q] at p2
    exact p2.elim
theorem em_callK0 {kk : Nat} {ks : List Str} {kws : List Keyword} {mk : MM (List MV)} {is : List Nat} {g : List Value → List Value → List Value} (F : FnOk X.prog X.w X.K X.mg X.base CX0 k f fd ps (spM X.K X.mg np fM)) (hn : ∀ xs h, (fM xs h).isSome = true → xs.length = np) (hr : Room k X.A) (hg : Gl X x) (hm : X.mg x = some (.ref f))
    (hk : PySem.W.keepIn X.K (.ref f) = true) (hb : KBn X.K fd ps 0 ks g (fun vs zs => pick is (vs ++ zs ++ dvs))) (hd2 : ∀ W, RVs X.K W dms dvs) (hkw : KM X c kws mk) (hkk : ks.length = kk := by rfl) (hall : (backToKw pos (keywordEach kws X.env)).all (·.1.isSome) = true := by rfl) (hks : (backToKw pos (keywordEach kws X.env)).filterMap (·.1) = ks := by rfl)
    (hdb : (x == ("__debug__" : Str)) = false := by decide) (hpl : ((backTo pos (starEach [] X.env)).any (·.1) || (backToKw pos (keywordEach kws X.env)).any (·.1.isNone)) = false := by rfl) :
    EM X c (.Call (.Name x p) [] kws pos) (callKM fM 0 kk is dms nilA mk) := pe_wk (pe_kw0 F hr hg hm hk hb hkw hall hks hdb hpl) fun σ H Q ⟨W, h, s, e, S, rs, p⟩ => by
  subst e
  subst hkk
  have p' : Pst X.K c (CV X.K Q) W ((mk s h).bnd fun zs h2 => if ([] : List MV).length = 0 ∧ zs.length = ks.length then noex (fM (pick is ([] ++ zs ++ dms)) h2) else none) := p
  refine ⟨W, h, s, rfl, S, rs, p'.bnd fun W2 h2 zs x2 S2 p2 ws r2 => ?_⟩
  by_cases q : ([] : List MV).length = 0 ∧ zs.length = ks.length
  · rw [if_pos q] at p2
    refine ⟨rfl, by rw [← r2.length]; exact q.2, W2, h2, _, rfl, S2, (((RVs.nil).append r2).append (hd2 W2)).pick is, ?_, noex_ok p2⟩
    cases hf : fM (pick is ([] ++ zs ++ dms)) h2 with
    | none =>
      rw [hf] at p2
      exact p2.elim
    | some o => exact hn _ h2 (by rw [hf]; rfl)
  · rw [if_neg q] at p2
    exact p2.elim
end
/-! ### what is not written any more stands still -/
mutual
def frzV : Nat → MV → MH → Option (MV × MH)
  | 0, _, _ => none
  | n + 1, x, h => match x with
    | .ref l => match h[l]? with
      | some (.lst xs) => match frzL n xs h with
        | some (ys, h1) => some (.fls ys, h1.set l .dead)
        | none => none
      | _ => none
    | x => some (x, h)
def frzL : Nat → List MV → MH → Option (List MV × MH)
  | _, [], h => some ([], h)
  | n, x :: xs, h => match frzV n x h with
    | some (y, h1) => match frzL n xs h1 with
      | some (ys, h2) => some (y :: ys, h2)
      | none => none
    | none => none
end
@[simp ↓] def frzM (m : ME) : ME := fun s h => (m s h).bnd fun x h1 => match frzV 4 x h1 with
  | some (y, h2) => ok y h2
  | none => none
end Mi
set_option maxHeartbeats 2000000
/-! Mi: what stands still; built-ins; methods of lists; slices. -/
namespace Mi
open PySem L2
/-! ### standing still -/
structure Stood (W W' : Wd) : Prop where
  H : W'.H = W.H
  hid : W'.hid = W.hid
  f : ∀ j b, W'.f j = some b → W.f j = some b
  x : Ext W W'
theorem Stood.refl (W : Wd) : Stood W W := ⟨rfl, rfl, fun _ _ e => e, Ext.refl W⟩
theorem Stood.trans {W W1 W2 : Wd} (a : Stood W W1) (b : Stood W1 W2) : Stood W W2 := ⟨b.H.trans a.H, b.hid.trans a.hid, fun j z e => a.f j z (b.f j z e), a.x.trans b.x⟩
theorem Stood.kill (W : Wd) (l : Nat) : Stood W (W.kill l) := ⟨rfl, rfl, fun _ _ e => (Wd.kill_some e).2, Ext.kill W l⟩
section
variable {K : PySem.W.Frag}
mutual
theorem frzV_ok : ∀ (n : Nat) (x : MV) (h : MH) (y : MV) (h' : MH) (W : Wd) (v : V), frzV n x h = some (y, h') → Sim K W h → RV K W x v → ∃ W', Stood W W' ∧ Sim K W' h' ∧ RV K W' y v
  | 0, _, _, _, _, _, _, e, _, _ => by
    unfold frzV at e
    cases e
  | n + 1, x, h, y, h', W, v, e, S, r => by
    unfold frzV at e
    cases x with
    | ref l =>
      dsimp only at e
      cases hl : h[l]? with
      | none =>
        rw [hl] at e
        cases e
      | some o =>
        rw [hl] at e
        cases o with
        | dead => cases e
        | dK kvs => cases e
        | lst xs =>
          dsimp only at e
          cases hf : frzL n xs h with
          | none =>
            rw [hf] at e
            cases e
          | some q =>
            obtain ⟨ys, h1⟩ := q
            rw [hf] at e
            cases e
            obtain ⟨a, vs, rfl, ea, eH, t⟩ := S.lstAt hl r
            obtain ⟨W1, T, S1, t1⟩ := frzL_ok n xs h ys h1 W vs hf S t
            refine ⟨W1.kill l, T.trans (Stood.kill W1 l), S1.kill l, .fls ⟨fun j z => ?_, ?_⟩ ?_ (t1.mono (Ext.kill W1 l))⟩
            · obtain ⟨hj, e2⟩ := Wd.kill_some z
              exact hj (S.inj j l a (T.f j a e2) ea)
            · show ¬ W1.hid a
              rw [T.hid]
              exact S.nhid l a ea
            · show W1.H a = _
              rw [T.H]
              exact eH
    | _ =>
      cases e
      exact ⟨W, Stood.refl W, S, r⟩
theorem frzL_ok : ∀ (n : Nat) (xs : List MV) (h : MH) (ys : List MV) (h' : MH) (W : Wd) (vs : List V), frzL n xs h = some (ys, h') → Sim K W h → RVs K W xs vs → ∃ W', Stood W W' ∧ Sim K W' h' ∧ RVs K W' ys vs
  | n, [], h, ys, h', W, vs, e, S, r => by
    unfold frzL at e
    cases e
    exact ⟨W, Stood.refl W, S, r⟩
  | n, x :: xs, h, ys, h', W, _, e, S, .cons r t => by
    unfold frzL at e
    cases hf : frzV n x h with
    | none =>
      rw [hf] at e
      cases e
    | some q =>
      obtain ⟨y, h1⟩ := q
      rw [hf] at e
      dsimp only at e
      cases hf2 : frzL n xs h1 with
      | none =>
        rw [hf2] at e
        cases e
      | some q2 =>
        obtain ⟨zs, h2⟩ := q2
        rw [hf2] at e
        cases e
        obtain ⟨W1, T1, S1, r1⟩ := frzV_ok n x h y h1 W _ hf S r
        obtain ⟨W2, T2, S2, t2⟩ := frzL_ok n xs h1 zs h' W1 _ hf2 S1 (t.mono T1.x)
        exact ⟨W2, T1.trans T2, S2, .cons (r1.mono T2.x) t2⟩
end
end
section
variable {X : Cx} {c : XC} {e : Expr} {es : List Expr} {pos : Pos} {K : PySem.W.Frag} {W : Wd}
theorem em_frz {m : ME} (h : EM X c e m) : EM X c e (frzM m) := pe_wk h fun σ H Q ⟨W, h, s, e, S, rs, p⟩ => by
  subst e
  refine ⟨W, h, s, rfl, S, rs, p.bnd fun W1 h1 x x1 S1 p1 v r1 => ?_⟩
  cases hf : frzV 4 x h1 with
  | none =>
    rw [hf] at p1
    exact p1.elim
  | some q =>
    rw [hf] at p1
    obtain ⟨W2, T, S2, r2⟩ := frzV_ok 4 x h1 q.1 q.2 W1 v hf S1 r1
    rw [← T.H]
    exact p1 W2 T.x S2 v r2
/-! ### built-ins by values -/
def CallM (K : PySem.W.Frag) (c : XC) (r : List V → Hp → VK → Prop) (f : List MV → MH → Res MV) : Prop :=
  ∀ (W : Wd) (h : MH) (xs : List MV) (vs : List V) (Q : VK), Sim K W h → RVs K W xs vs → Pst K c (CV K Q) W (f xs h) → r vs W.H Q
/-- one that gives a new list -/
def CallL (K : PySem.W.Frag) (c : XC) (r : List V → Hp → VK → Prop) (f : List MV → MH → Res (List MV)) : Prop :=
  ∀ (W : Wd) (h : MH) (xs : List MV) (vs : List V) (Q : VK), Sim K W h → RVs K W xs vs → Pst K c (CL K Q) W (f xs h) → r vs W.H Q
@[simp ↓] def bltM (f : List MV → MH → Res MV) (a : MM (List MV)) : ME := fun s h => (a s h).bnd f
@[simp ↓] def bltL (f : List MV → MH → Res (List MV)) (a : MM (List MV)) : MM (List MV) := fun s h => (a s h).bnd f
theorem tCB_of {r : List V → Hp → VK → Prop} {f : List MV → MH → Res MV} {m : MM (List MV)} (ho : CallM K c r f) {σ : St} {H : Hp} {Q : VK} (q : tM K c (bltM f m) σ H Q) : tCB r (tMA K c m) σ H Q := by
  obtain ⟨W, h, s, e, S, rs, p⟩ := q
  subst e
  exact ⟨W, h, s, rfl, S, rs, p.bnd fun W1 h1 xs x1 S1 p1 vs r1 => ho W1 h1 xs vs Q S1 r1 p1⟩
theorem tCL_of {r : List V → Hp → VK → Prop} {f : List MV → MH → Res (List MV)} {m : MM (List MV)} (ho : CallL K c r f) {σ : St} {H : Hp} {Q : VK} (q : tML K c (bltL f m) σ H Q) : tCB r (tMA K c m) σ H Q := by
  obtain ⟨W, h, s, e, S, rs, p⟩ := q
  subst e
  exact ⟨W, h, s, rfl, S, rs, p.bnd fun W1 h1 xs x1 S1 p1 vs r1 => ho W1 h1 xs vs Q S1 r1 p1⟩
theorem em_blt {id : String} {x : Str} {p : Pos} {r : List V → Hp → VK → Prop} {f : List MV → MH → Res MV} {m : MM (List MV)} (hc : CallR X (.builtin id) r) (ho : CallM X.K c r f) (hg : Gl X x) (hm : X.mg x = none) (hv : bootBuiltins x = some (.builtin id)) (ha : AM X c (e :: es) m) (hn : x ≠ "__name__" := by decide) (hdb : (x == ("__debug__" : Str)) = false := by decide)
    (he : starEach (e :: es) X.env = (false, eval e X.env) :: starEach es X.env := by rfl) (hpl : (backTo pos (starEach es X.env)).any (·.1) = false := by rfl) : EM X c (.Call (.Name x p) (e :: es) [] pos) (bltM f m) := pe_wk (pe_callB hc hg hm hv ha hn hdb he hpl) fun σ H Q q => tCB_of ho q
theorem em_bty {T : String} {x : Str} {p : Pos} {r : List V → Hp → VK → Prop} {f : List MV → MH → Res MV} {m : MM (List MV)} (hc : CallR X (.type T) r) (ho : CallM X.K c r f) (hg : Gl X x) (hm : X.mg x = none) (hv : bootBuiltins x = some (.type T)) (ha : AM X c (e :: es) m) (hn : x ≠ "__name__" := by decide) (hdb : (x == ("__debug__" : Str)) = false := by decide)
    (he : starEach (e :: es) X.env = (false, eval e X.env) :: starEach es X.env := by rfl) (hpl : (backTo pos (starEach es X.env)).any (·.1) = false := by rfl) : EM X c (.Call (.Name x p) (e :: es) [] pos) (bltM f m) := pe_wk (pe_callTy hc hg hm hv ha hn hdb he hpl) fun σ H Q q => tCB_of ho q
theorem lm_blt {id : String} {x : Str} {p : Pos} {r : List V → Hp → VK → Prop} {f : List MV → MH → Res (List MV)} {m : MM (List MV)} (hc : CallR X (.builtin id) r) (ho : CallL X.K c r f) (hg : Gl X x) (hm : X.mg x = none) (hv : bootBuiltins x = some (.builtin id)) (ha : AM X c (e :: es) m) (hn : x ≠ "__name__" := by decide) (hdb : (x == ("__debug__" : Str)) = false := by decide)
    (he : starEach (e :: es) X.env = (false, eval e X.env) :: starEach es X.env := by rfl) (hpl : (backTo pos (starEach es X.env)).any (·.1) = false := by rfl) : LM X c (.Call (.Name x p) (e :: es) [] pos) (bltL f m) := pe_wk (pe_callB hc hg hm hv ha hn hdb he hpl) fun σ H Q q => tCL_of ho q
theorem lm_bty {T : String} {x : Str} {p : Pos} {r : List V → Hp → VK → Prop} {f : List MV → MH → Res (List MV)} {m : MM (List MV)} (hc : CallR X (.type T) r) (ho : CallL X.K c r f) (hg : Gl X x) (hm : X.mg x = none) (hv : bootBuiltins x = some (.type T)) (ha : AM X c (e :: es) m) (hn : x ≠ "__name__" := by decide) (hdb : (x == ("__debug__" : Str)) = false := by decide)
    (he : starEach (e :: es) X.env = (false, eval e X.env) :: starEach es X.env := by rfl) (hpl : (backTo pos (starEach es X.env)).any (·.1) = false := by rfl) : LM X c (.Call (.Name x p) (e :: es) [] pos) (bltL f m) := pe_wk (pe_callTy hc hg hm hv ha hn hdb he hpl) fun σ H Q q => tCL_of ho q
end
@[simp ↓] def lenF (xs : List MV) (h : MH) : Res MV := match xs with
  | [.str z] => if z.length ≤ lim then ok (.int z.length) h else none
  | [x] => match seqOf h x with
    | some ys => ok (.int ys.length) h
    | none => none
  | _ => none
@[simp ↓] def absF (xs : List MV) (h : MH) : Res MV := match xs with
  | [.int i] => ok (.int (if i < 0 then -i else i)) h
  | _ => none
@[simp ↓] def intF (xs : List MV) (h : MH) : Res MV := match xs with
  | [.int i] => ok (.int i) h
  | [.bl k] => ok (.int (if k then 1 else 0)) h
  | _ => none
@[simp ↓] def min2F (xs : List MV) (h : MH) : Res MV := match xs with
  | [.int i, .int j] => ok (.int (if j < i then j else i)) h
  | _ => none
@[simp ↓] def max2F (xs : List MV) (h : MH) : Res MV := match xs with
  | [.int i, .int j] => ok (.int (if j > i then j else i)) h
  | _ => none
@[simp ↓] def tupF (xs : List MV) (h : MH) : Res MV := match xs with
  | [.ktp _] => none
  | [x] => match seqOf h x with
    | some ys => ok (.tup ys) h
    | none => none
  | _ => none
@[simp ↓] def lstF (xs : List MV) (h : MH) : Res (List MV) := match xs with
  | [x] => seqOf h x |>.map fun ys => .ok ys h
  | _ => none
def intOf : MV → Option Int
  | .int i => some i
  | _ => none
def intsOf : List MV → Option (List Int)
  | [] => some []
  | x :: xs => match intOf x, intsOf xs with
    | some i, some is => some (i :: is)
    | _, _ => none
def blOf : MV → Option Bool
  | .bl b => some b
  | _ => none
def blsOf : List MV → Option (List Bool)
  | [] => some []
  | x :: xs => match blOf x, blsOf xs with
    | some i, some is => some (i :: is)
    | _, _ => none
def sumF (xs : List MV) (h : MH) : Res MV := match xs with
  | [x] => match (lstOf h x).bind intsOf with
    | some ns => ok (.int ns.sum) h
    | none => none
  | _ => none
def allF (xs : List MV) (h : MH) : Res MV := match xs with
  | [x] => match (lstOf h x).bind blsOf with
    | some ns => ok (.bl (ns.all id)) h
    | none => none
  | _ => none
def anyF (xs : List MV) (h : MH) : Res MV := match xs with
  | [x] => match (lstOf h x).bind blsOf with
    | some ns => ok (.bl (ns.any id)) h
    | none => none
  | _ => none
/-- the greatest, the least of a list of ints -/
def maxI : List Int → Int
  | [] => 0
  | [x] => x
  | x :: xs => if maxI xs < x then x else maxI xs
def minI : List Int → Int
  | [] => 0
  | [x] => x
  | x :: xs => if x < minI xs then x else minI xs
def maxF (xs : List MV) (h : MH) : Res MV := match xs with
  | [x] => match (lstOf h x).bind intsOf with
    | some ns => if 0 < ns.length then ok (.int (maxI ns)) h else none
    | none => none
  | _ => none
def minF (xs : List MV) (h : MH) : Res MV := match xs with
  | [x] => match (lstOf h x).bind intsOf with
    | some ns => if 0 < ns.length then ok (.int (minI ns)) h else none
    | none => none
  | _ => none
section
variable {X : Cx} {c : XC} {K : PySem.W.Frag} {W : Wd}
theorem ints_V : ∀ {xs : List MV} {vs : List V} {ns : List Int}, RVs K W xs vs → intsOf xs = some ns → vs = ns.map V.int ∧ xs = ns.map MV.int
  | [], _, _, .nil, e => by
    cases e
    exact ⟨rfl, rfl⟩
  | x :: xs, _, ns, .cons r t, e => by
    unfold intsOf at e
    cases x <;> first | (cases e; done) | skip
    rename_i i
    cases h : intsOf xs with
    | none =>
      simp only [intOf, h] at e
      cases e
    | some is =>
      simp only [intOf, h] at e
      cases e
      obtain ⟨e1, e2⟩ := ints_V t h
      subst e1 e2
      rw [rv_int r]
      exact ⟨rfl, rfl⟩
theorem bls_V : ∀ {xs : List MV} {vs : List V} {ns : List Bool}, RVs K W xs vs → blsOf xs = some ns → vs = ns.map V.bl ∧ xs = ns.map MV.bl
  | [], _, _, .nil, e => by
    cases e
    exact ⟨rfl, rfl⟩
  | x :: xs, _, ns, .cons r t, e => by
    unfold blsOf at e
    cases x <;> first | (cases e; done) | skip
    rename_i i
    cases h : blsOf xs with
    | none =>
      simp only [blOf, h] at e
      cases e
    | some is =>
      simp only [blOf, h] at e
      cases e
      obtain ⟨e1, e2⟩ := bls_V t h
      subst e1 e2
      rw [rv_bl r]
      exact ⟨rfl, rfl⟩
theorem lst_bind {β : Type} {h : MH} {x : MV} {v : V} {f : List MV → Option β} {b : β} (S : Sim K W h) (r : RV K W x v) (e : (lstOf h x).bind f = some b) : ∃ p vs xs, v = .ref p ∧ SqL K W.H p vs ∧ RVs K W xs vs ∧ f xs = some b := by
  cases hl : lstOf h x with
  | none =>
    rw [hl] at e
    cases e
  | some xs =>
    rw [hl] at e
    obtain ⟨p, vs, e1, e2, t⟩ := lst_sq S r hl
    exact ⟨p, vs, xs, e1, e2, t, e⟩
theorem cm_len : CallM K c (fun xs H Q => ∃ x n, xs = [x] ∧ LenV K x H n ∧ Q (.int n) H) lenF := fun W h xs vs Q S r p => by
  unfold lenF at p
  split at p
  · rename_i z
    obtain ⟨v, rfl, r1⟩ := rvs_one r
    by_cases q : z.length ≤ lim
    · rw [if_pos q] at p
      exact ⟨v, z.length, rfl, by rw [rv_str r1]; exact ⟨lim_line q, rfl⟩, Pst.now p S _ (.int _)⟩
    · rw [if_neg q] at p
      exact p.elim
  · rename_i x _
    obtain ⟨v, rfl, r1⟩ := rvs_one r
    cases e : seqOf h x with
    | none =>
      rw [e] at p
      exact p.elim
    | some ys =>
      rw [e] at p
      obtain ⟨a, ws, rfl, hq, t⟩ := seq_sq S r1 e
      refine ⟨_, ys.length, rfl, ?_, Pst.now p S _ (.int _)⟩
      rcases hq with hq | hq
      · exact .inl ⟨ws, hq, t.length⟩
      · exact .inr ⟨ws, hq, t.length⟩
  · exact p.elim
theorem cm_abs : CallM K c (fun xs H Q => ∃ i, xs = [.int i] ∧ Q (.int (if i < 0 then -i else i)) H) absF := fun W h xs vs Q S r p => by
  unfold absF at p
  split at p
  · rename_i i
    obtain ⟨v, rfl, r1⟩ := rvs_one r
    exact ⟨i, by rw [rv_int r1], Pst.now p S _ (.int _)⟩
  · exact p.elim
theorem cm_int : CallM K c (fun xs H Q => (∃ i, xs = [.int i] ∧ Q (.int i) H) ∨ ∃ k, xs = [.bl k] ∧ Q (.int (if k then 1 else 0)) H) intF := fun W h xs vs Q S r p => by
  unfold intF at p
  split at p
  · rename_i i
    obtain ⟨v, rfl, r1⟩ := rvs_one r
    exact .inl ⟨i, by rw [rv_int r1], Pst.now p S _ (.int _)⟩
  · rename_i i
    obtain ⟨v, rfl, r1⟩ := rvs_one r
    exact .inr ⟨i, by rw [rv_bl r1], Pst.now p S _ (.int _)⟩
  · exact p.elim
theorem cm_min2 : CallM K c (fun xs H Q => ∃ i j, xs = [.int i, .int j] ∧ Q (.int (if j < i then j else i)) H) min2F := fun W h xs vs Q S r p => by
  unfold min2F at p
  split at p
  · rename_i i j
    obtain ⟨v, w, rfl, r1, r2⟩ := rvs_two r
    exact ⟨i, j, by rw [rv_int r1, rv_int r2], Pst.now p S _ (.int _)⟩
  · exact p.elim
theorem cm_max2 : CallM K c (fun xs H Q => ∃ i j, xs = [.int i, .int j] ∧ Q (.int (if j > i then j else i)) H) max2F := fun W h xs vs Q S r p => by
  unfold max2F at p
  split at p
  · rename_i i j
    obtain ⟨v, w, rfl, r1, r2⟩ := rvs_two r
    exact ⟨i, j, by rw [rv_int r1, rv_int r2], Pst.now p S _ (.int _)⟩
  · exact p.elim
theorem cm_tup : CallM K c (fun xs H Q => ∃ p ys, xs = [.ref p] ∧ ((SqL K H p ys ∧ ∀ l, H l = none → Q (.ref l) (upd H l (.tup ys))) ∨ (SqT K H p ys ∧ Q (.ref p) H))) tupF := fun W h xs vs Q S r p => by
  unfold tupF at p
  split at p
  · exact p.elim
  · rename_i x hk
    obtain ⟨v, rfl, r1⟩ := rvs_one r
    cases e : seqOf h x with
    | none =>
      rw [e] at p
      exact p.elim
    | some ys =>
      rw [e] at p
      cases x with
      | tup zs =>
        cases e
        obtain ⟨a, ws, rfl, hq, t⟩ := tup_sq r1
        exact ⟨a, ws, rfl, .inr ⟨hq, Pst.now p S _ r1⟩⟩
      | ktp zs => exact absurd rfl (hk zs)
      | _ =>
        obtain ⟨a, ws, rfl, hq, t⟩ := lst_sq S r1 e
        exact ⟨a, ws, rfl, .inl ⟨hq, fun l hl => p (W.put l (.tup ws)) (Ext.put S hl) (S.put hl) (.ref l) (.tup (S.fresh hl) upd_same (t.mono (Ext.put S hl)))⟩⟩
  · exact p.elim
theorem cl_lst : CallL K c (fun xs H Q => ∃ p ys, xs = [.ref p] ∧ (SqL K H p ys ∨ SqT K H p ys) ∧ ∀ l, H l = none → Q (.ref l) (upd H l (.lst ys))) lstF := fun W h xs vs Q S r p => by
  unfold lstF at p
  split at p
  · rename_i x
    obtain ⟨v, rfl, r1⟩ := rvs_one r
    cases e : seqOf h x with
    | none =>
      rw [e] at p
      exact p.elim
    | some ys =>
      rw [e] at p
      obtain ⟨a, ws, rfl, hq, t⟩ := seq_sq S r1 e
      exact ⟨a, ws, rfl, hq, fun l hl => p W (Ext.refl W) S ws l t hl⟩
  · exact p.elim
theorem cm_sum : CallM K c (rSum K) sumF := fun W h xs vs Q S r p => by
  unfold sumF at p
  split at p
  · rename_i x
    obtain ⟨v, rfl, r1⟩ := rvs_one r
    cases e : (lstOf h x).bind intsOf with
    | none =>
      rw [e] at p
      exact p.elim
    | some ns =>
      rw [e] at p
      obtain ⟨a, ws, ys, rfl, hq, t, e2⟩ := lst_bind S r1 e
      exact ⟨a, ns, rfl, by rw [← (ints_V t e2).1]; exact hq, Pst.now p S _ (.int _)⟩
  · exact p.elim
theorem cm_all : CallM K c (rAll K) allF := fun W h xs vs Q S r p => by
  unfold allF at p
  split at p
  · rename_i x
    obtain ⟨v, rfl, r1⟩ := rvs_one r
    cases e : (lstOf h x).bind blsOf with
    | none =>
      rw [e] at p
      exact p.elim
    | some ns =>
      rw [e] at p
      obtain ⟨a, ws, ys, rfl, hq, t, e2⟩ := lst_bind S r1 e
      exact ⟨a, ns, rfl, by rw [← (bls_V t e2).1]; exact hq, Pst.now p S _ (.bl _)⟩
  · exact p.elim
theorem cm_any : CallM K c (rAny K) anyF := fun W h xs vs Q S r p => by
  unfold anyF at p
  split at p
  · rename_i x
    obtain ⟨v, rfl, r1⟩ := rvs_one r
    cases e : (lstOf h x).bind blsOf with
    | none =>
      rw [e] at p
      exact p.elim
    | some ns =>
      rw [e] at p
      obtain ⟨a, ws, ys, rfl, hq, t, e2⟩ := lst_bind S r1 e
      exact ⟨a, ns, rfl, by rw [← (bls_V t e2).1]; exact hq, Pst.now p S _ (.bl _)⟩
  · exact p.elim
theorem maxI_of : ∀ {ns : List Int} {m : Int}, m ∈ ns → (∀ y, y ∈ ns → y ≤ m) → maxI ns = m
  | [], _, h, _ => by cases h
  | [x], m, h, _ => by
    have := List.mem_singleton.mp h
    exact this.symm
  | x :: y :: ys, m, h, hm => by
    have hx := hm x (List.mem_cons_self ..)
    show (if maxI (y :: ys) < x then x else maxI (y :: ys)) = m
    by_cases hin : m ∈ y :: ys
    · rw [maxI_of hin fun z hz => hm z (List.mem_cons_of_mem _ hz)]
      rw [if_neg (by omega)]
    · have e : m = x := (List.mem_cons.mp h).resolve_right hin
      have ne : ∃ k, k ∈ y :: ys ∧ ∀ z, z ∈ y :: ys → z ≤ k := by
        have : ∀ (l : List Int), l ≠ [] → ∃ k, k ∈ l ∧ ∀ z, z ∈ l → z ≤ k := fun l => by
          induction l with
          | nil => exact fun h => absurd rfl h
          | cons a l ih =>
            intro _
            cases l with
            | nil => exact ⟨a, List.mem_cons_self .., fun z hz => by rw [List.mem_singleton.mp hz]; exact Int.le_refl _⟩
            | cons b l =>
              obtain ⟨k, h1, h2⟩ := ih (by intro z; cases z)
              by_cases hk : a ≤ k
              · exact ⟨k, List.mem_cons_of_mem _ h1, fun z hz => (List.mem_cons.mp hz).elim (fun q => by rw [q]; exact hk) (h2 z)⟩
              · exact ⟨a, List.mem_cons_self .., fun z hz => (List.mem_cons.mp hz).elim (fun q => by rw [q]; exact Int.le_refl _) fun q => by have := h2 z q; omega⟩
        exact this _ (by intro z; cases z)
      obtain ⟨k, h1, h2⟩ := ne
      rw [maxI_of h1 h2]
      have : k ≤ m := hm k (List.mem_cons_of_mem _ h1)
      by_cases hk : k < x
      · rw [if_pos hk, e]
      · rw [if_neg hk]
        omega
theorem cm_max : CallM K c (rMax K) maxF := fun W h xs vs Q S r p => by
  unfold maxF at p
  split at p
  · rename_i x
    obtain ⟨v, rfl, r1⟩ := rvs_one r
    cases e : (lstOf h x).bind intsOf with
    | none =>
      rw [e] at p
      exact p.elim
    | some ns =>
      rw [e] at p
      dsimp only at p
      by_cases q : 0 < ns.length
      · rw [if_pos q] at p
        obtain ⟨a, ws, ys, rfl, hq, t, e2⟩ := lst_bind S r1 e
        exact ⟨a, ns, rfl, by rw [← (ints_V t e2).1]; exact hq, q, fun m h1 h2 => by rw [← maxI_of h1 h2]; exact Pst.now p S _ (.int _)⟩
      · rw [if_neg q] at p
        exact p.elim
  · exact p.elim
theorem minI_of : ∀ {ns : List Int} {m : Int}, m ∈ ns → (∀ y, y ∈ ns → m ≤ y) → minI ns = m
  | [], _, h, _ => by cases h
  | [x], m, h, _ => by
    have := List.mem_singleton.mp h
    exact this.symm
  | x :: y :: ys, m, h, hm => by
    have hx := hm x (List.mem_cons_self ..)
    show (if x < minI (y :: ys) then x else minI (y :: ys)) = m
    by_cases hin : m ∈ y :: ys
    · rw [minI_of hin fun z hz => hm z (List.mem_cons_of_mem _ hz)]
      by_cases hk : x < m
      · omega
      · rw [if_neg hk]
    · have e : m = x := (List.mem_cons.mp h).resolve_right hin
      have ne : ∃ k, k ∈ y :: ys ∧ ∀ z, z ∈ y :: ys → k ≤ z := by
        have : ∀ (l : List Int), l ≠ [] → ∃ k, k ∈ l ∧ ∀ z, z ∈ l → k ≤ z := fun l => by
          induction l with
          | nil => exact fun h => absurd rfl h
          | cons a l ih =>
            intro _
            cases l with
            | nil => exact ⟨a, List.mem_cons_self .., fun z hz => by rw [List.mem_singleton.mp hz]; exact Int.le_refl _⟩
            | cons b l =>
              obtain ⟨k, h1, h2⟩ := ih (by intro z; cases z)
              by_cases hk : k ≤ a
              · exact ⟨k, List.mem_cons_of_mem _ h1, fun z hz => (List.mem_cons.mp hz).elim (fun q => by rw [q]; exact hk) (h2 z)⟩
              · exact ⟨a, List.mem_cons_self .., fun z hz => (List.mem_cons.mp hz).elim (fun q => by rw [q]; exact Int.le_refl _) fun q => by have := h2 z q; omega⟩
        exact this _ (by intro z; cases z)
      obtain ⟨k, h1, h2⟩ := ne
      rw [minI_of h1 h2]
      have : m ≤ k := hm k (List.mem_cons_of_mem _ h1)
      by_cases hk : x < k
      · rw [if_pos hk, e]
      · rw [if_neg hk]
        omega
theorem cm_min : CallM K c (rMin K) minF := fun W h xs vs Q S r p => by
  unfold minF at p
  split at p
  · rename_i x
    obtain ⟨v, rfl, r1⟩ := rvs_one r
    cases e : (lstOf h x).bind intsOf with
    | none =>
      rw [e] at p
      exact p.elim
    | some ns =>
      rw [e] at p
      dsimp only at p
      by_cases q : 0 < ns.length
      · rw [if_pos q] at p
        obtain ⟨a, ws, ys, rfl, hq, t, e2⟩ := lst_bind S r1 e
        exact ⟨a, ns, rfl, by rw [← (ints_V t e2).1]; exact hq, q, fun m h1 h2 => by rw [← minI_of h1 h2]; exact Pst.now p S _ (.int _)⟩
      · rw [if_neg q] at p
        exact p.elim
  · exact p.elim
end
/-! ### isinstance -/
inductive Ty where
  | non | bool | int | str | tuple | list | dict
  deriving DecidableEq
def Ty.nm : Ty → String
  | .non => "NoneType"
  | .bool => "bool"
  | .int => "int"
  | .str => "str"
  | .tuple => "tuple"
  | .list => "list"
  | .dict => "dict"
@[simp ↓] def tyOf (h : MH) : MV → Option Ty
  | .non => some .non
  | .bl _ => some .bool
  | .int _ => some .int
  | .str _ => some .str
  | .tup _ => some .tuple
  | .ktp _ => some .tuple
  | .fls _ => some .list
  | .frz _ => some .list
  | .ref l => match h[l]? with
    | some (.lst _) => some .list
    | some (.dK _) => some .dict
    | _ => none
def Ty.le (a b : Ty) : Bool := decide (a = b) || (decide (a = .bool) && decide (b = .int))
@[simp ↓] def isiM (ts : List Ty) (m : ME) : ME := fun s h => (m s h).bnd fun x h1 => match tyOf h1 x with
  | some t => ok (.bl (ts.any fun u => t.le u)) h1
  | none => none
section
variable {X : Cx} {c : XC} {K : PySem.W.Frag} {W : Wd} {e : Expr} {pos p p2 : Pos}
theorem kit_le (a b : Ty) (hb : b ≠ .non) : PySem.W.kitOne K (.type a.nm) (.type b.nm) = some (a.le b) := by
  refine kit_ty ?_
  cases a <;> cases b <;> first | exact absurd rfl hb | decide +kernel
theorem ty_V {h : MH} {x : MV} {v : V} {t : Ty} (S : Sim K W h) (r : RV K W x v) (e : tyOf h x = some t) : TyX K W.H v (.type t.nm) := by
  cases r with
  | non =>
    cases e
    exact .base .non
  | bl b =>
    cases e
    exact .base (.bl b)
  | int i =>
    cases e
    exact .base (.int i)
  | str z =>
    cases e
    exact .base (.str z)
  | tup s q t =>
    cases e
    exact .base (.tup q)
  | tupK q t =>
    cases e
    rcases q fun _ => none with (q | ⟨o, q⟩) | ⟨o, its, n, q, hc, _⟩
    · cases q
    · cases q
    · exact .kTuple q hc
  | fls s q t =>
    cases e
    exact .base (.lst q)
  | frz s q t =>
    cases e
    rcases q with q | ⟨o, q⟩
    · exact .base (.lst q)
    · exact .base (.frz q)
  | frzK q t =>
    cases e
    rcases q fun _ => none with (q | ⟨o, q⟩) | ⟨o, its, n, q, hc, _⟩
    · cases q
    · cases q
    · exact .kList q hc
  | @ref l a lt q =>
    have e' : (match h[l]? with | some (.lst _) => some Ty.list | some (.dK _) => some Ty.dict | _ => none) = some t := e
    cases hl : h[l]? with
    | none =>
      rw [hl] at e'
      cases e'
    | some o =>
      rw [hl] at e'
      cases o with
      | dead => cases e'
      | lst xs =>
        cases e'
        obtain ⟨b, vs, e1, e2, e3, _⟩ := S.lstAt hl (.ref lt q)
        cases e1
        exact .base (.lst e3)
      | dK kvs =>
        cases e'
        obtain ⟨b, e1, e2, kws, e3, _⟩ := S.at hl (by intro z; cases z) (.ref lt q)
        cases e1
        exact .base (.dK e3)
/-- isinstance(e, T) -/
theorem em_isi {m : ME} {T : Expr} (u : Ty) (hu : u ≠ .non) (hg : Gl X "isinstance") (hm : X.mg "isinstance" = none) (hT : PE X T (tC (.ty u.nm))) (he : EM X c e m) (hs : starEach [e, T] X.env = (false, eval e X.env) :: starEach [T] X.env := by rfl) (hs2 : starEach [T] X.env = (false, eval T X.env) :: starEach [] X.env := by rfl)
    (hpl : (backTo pos (starEach [T] X.env)).any (·.1) = false := by rfl) : EM X c (.Call (.Name "isinstance" p) [e, T] [] pos) (isiM [u] m) :=
  pe_wk (pe_callB call_isi hg hm PyProof.Rows.boot_isinstance (pa_cons he (pa_cons hT pa_nil hs2) hs) (by decide) (by decide) hs hpl) fun σ H Q ⟨W, h, s, e, S, rs, p⟩ => by
    subst e
    refine ⟨W, h, s, rfl, S, rs, p.bnd fun W1 h1 x x1 S1 p1 v r1 => ?_⟩
    cases et : tyOf h1 x with
    | none =>
      rw [et] at p1
      exact p1.elim
    | some t =>
      rw [et] at p1
      refine ⟨v, .ty u.nm, .type t.nm, .type u.nm, t.le u, rfl, .ty _, ty_V S1 r1 et, kit_le t u hu, ?_⟩
      have e2 : ([u].any fun u => t.le u) = t.le u := by
        rw [List.any_cons, List.any_nil, Bool.or_false]
      rw [← e2]
      exact Pst.now p1 S1 _ (.bl _)
theorem kit_any {t : Ty} : ∀ (us : List Ty), (∀ u ∈ us, u ≠ .non) → PySem.W.kitAny K (.type t.nm) (us.map fun u => Value.type u.nm) = some (us.any fun u => t.le u)
  | [], _ => rfl
  | u :: us, h => by
    rw [List.map_cons, List.any_cons]
    refine kitAny_cons (kit_le t u (h u (List.mem_cons_self ..))) (fun e => ?_) fun e => ?_
    · rw [e, Bool.false_or]
      exact kit_any us fun z hz => h z (List.mem_cons_of_mem _ hz)
    · rw [e, Bool.true_or]
/-- isinstance(e, (T, U)) -/
theorem em_isi2 {m : ME} {T U : Expr} {k : Nat} (t u : Ty) (ht : t ≠ .non) (hu : u ≠ .non) (hg : Gl X "isinstance") (hm : X.mg "isinstance" = none) (hT : PE X T (tC (.ty t.nm))) (hU : PE X U (tC (.ty u.nm))) (he : EM X c e m) (hs : starEach [e, .Tuple [T, U] k p2] X.env = (false, eval e X.env) :: starEach [.Tuple [T, U] k p2] X.env := by rfl)
    (hs2 : starEach [.Tuple [T, U] k p2] X.env = (false, eval (.Tuple [T, U] k p2) X.env) :: starEach [] X.env := by rfl) (ht1 : starEach [T, U] X.env = (false, eval T X.env) :: starEach [U] X.env := by rfl) (hu1 : starEach [U] X.env = (false, eval U X.env) :: starEach [] X.env := by rfl)
    (hpl : (backTo pos (starEach [.Tuple [T, U] k p2] X.env)).any (·.1) = false := by rfl) : EM X c (.Call (.Name "isinstance" p) [e, .Tuple [T, U] k p2] [] pos) (isiM [t, u] m) :=
  pe_wk (pe_callB call_isiT hg hm PyProof.Rows.boot_isinstance (pa_cons he (pa_cons (pe_tup (pa_cons hT (pa_cons hU pa_nil hu1) ht1)) pa_nil hs2) hs) (by decide) (by decide) hs hpl) fun σ H Q ⟨W, h, s, e, S, rs, p⟩ => by
    subst e
    refine ⟨W, h, s, rfl, S, rs, p.bnd fun W1 h1 x x1 S1 p1 v r1 => ?_⟩
    refine ⟨by show 2 ≤ sizeLine; rw [sizeLine_eq]; decide, fun q hq => ?_⟩
    have S2 : Sim X.K (W1.put q (.tup [.ty t.nm, .ty u.nm])) h1 := S1.put hq
    have x2 : Ext W1 (W1.put q (.tup [.ty t.nm, .ty u.nm])) := Ext.put S1 hq
    cases et : tyOf h1 x with
    | none =>
      rw [et] at p1
      exact p1.elim
    | some ty =>
      rw [et] at p1
      refine ⟨v, q, _, .type ty.nm, [.type t.nm, .type u.nm], [t, u].any fun u => ty.le u, rfl, upd_same, .cons (.ty _) (.cons (.ty _) .nil), ty_V S2 (r1.mono x2) et, kit_any [t, u] (fun z hz => ?_), p1 _ x2 S2 _ (.bl _)⟩
      rcases List.mem_cons.mp hz with e | e
      · rw [e]
        exact ht
      · rw [List.mem_singleton.mp e]
        exact hu
end
/-! ### methods of lists -/
@[simp ↓] def isL (h : MH) (x : MV) : Bool := match x with
  | .ref l => match h[l]? with
    | some (.lst _) => true
    | _ => false
  | _ => false
@[simp ↓] def mthM (f : MV → List MV → MH → Res MV) (o : ME) (a : MM (List MV)) : ME := fun s h => (o s h).bnd fun x h1 => if isL h1 x = true then (a s h1).bnd fun ys h2 => f x ys h2 else none
@[simp ↓] def appF (x : MV) (ys : List MV) (h : MH) : Res MV := match x, ys with
  | .ref l, [y] => match h[l]? with
    | some (.lst xs) => if xs.length < lim then ok .non (h.set l (.lst (xs ++ [y]))) else none
    | _ => none
  | _, _ => none
@[simp ↓] def popF (x : MV) (ys : List MV) (h : MH) : Res MV := match x, ys with
  | .ref l, [] => match h[l]? with
    | some (.lst xs) => match xs[xs.length - 1]? with
      | some y => ok y (h.set l (.lst xs.dropLast))
      | none => none
    | _ => none
  | _, _ => none
@[simp ↓] def popAtF (x : MV) (ys : List MV) (h : MH) : Res MV := match x, ys with
  | .ref l, [.int i] => match h[l]? with
    | some (.lst xs) => match ixN xs.length i with
      | some k => match xs[k]? with
        | some y => if xs.length ≤ lim then ok y (h.set l (.lst (xs.eraseIdx k))) else none
        | none => none
      | none => none
    | _ => none
  | _, _ => none
@[simp ↓] def extF (x : MV) (ys : List MV) (h : MH) : Res MV := match x, ys with
  | .ref l, [.ref k] => match h[l]?, h[k]? with
    | some (.lst xs), some (.lst zs) => if xs.length + zs.length ≤ lim then ok .non (h.set l (.lst (xs ++ zs))) else none
    | _, _ => none
  | .ref l, [.fls zs] => match h[l]? with
    | some (.lst xs) => if xs.length + zs.length ≤ lim then ok .non (h.set l (.lst (xs ++ zs))) else none
    | _ => none
  | _, _ => none
@[simp ↓] def revF (x : MV) (ys : List MV) (h : MH) : Res MV := match x, ys with
  | .ref l, [] => match h[l]? with
    | some (.lst xs) => ok .non (h.set l (.lst xs.reverse))
    | _ => none
  | _, _ => none
def MthM (K : PySem.W.Frag) (c : XC) (r : V → List V → Hp → VK → Prop) (f : MV → List MV → MH → Res MV) : Prop :=
  ∀ (W : Wd) (h : MH) (x : MV) (xs : List MV) (v : V) (vs : List V) (Q : VK), Sim K W h → RV K W x v → RVs K W xs vs → Pst K c (CV K Q) W (f x xs h) → r v vs W.H Q
section
variable {X : Cx} {c : XC} {K : PySem.W.Frag} {W : Wd} {o e : Expr} {es : List Expr}
theorem isL_ty {h : MH} {x : MV} {v : V} (S : Sim K W h) (r : RV K W x v) (e : isL h x = true) : tyV K "list" v W.H := by
  unfold isL at e
  cases x <;> first | (cases e; done) | skip
  rename_i l
  dsimp only at e
  cases hl : h[l]? with
  | none =>
    rw [hl] at e
    cases e
  | some o =>
    rw [hl] at e
    cases o with
    | lst xs =>
      obtain ⟨a, vs, rfl, e2, e3, t⟩ := S.lstAt hl r
      exact .inl ⟨rfl, vs, .inl (.inl e3)⟩
    | dead => cases e
    | dK kvs => cases e
theorem em_mth {name : Str} {apos cpos : Pos} {r : V → List V → Hp → VK → Prop} {f : MV → List MV → MH → Res MV} {mo : ME} {ma : MM (List MV)} (hf : MthM X.K c r f)
    (h : PE X (.Call (.Attribute o name apos) (e :: es) [] cpos) (tBM X.K "list" r (tM X.K c mo) (tMA X.K c ma))) : EM X c (.Call (.Attribute o name apos) (e :: es) [] cpos) (mthM f mo ma) := pe_wk h fun σ H Q ⟨W, h, s, e, S, rs, p⟩ => by
  subst e
  refine ⟨W, h, s, rfl, S, rs, p.bnd fun W1 h1 x x1 S1 p1 v r1 => ?_⟩
  by_cases q : isL h1 x = true
  · rw [if_pos q] at p1
    exact ⟨isL_ty S1 r1 q, W1, h1, s, rfl, S1, rs.mono x1, p1.bnd fun W2 h2 ys x2 S2 p2 vs r2 => hf W2 h2 x ys v vs Q S2 (r1.mono x2) r2 p2⟩
  · rw [if_neg q] at p1
    exact p1.elim
theorem em_mth0 {name : Str} {apos cpos : Pos} {r : V → List V → Hp → VK → Prop} {f : MV → List MV → MH → Res MV} {mo : ME} (hf : MthM X.K c r f)
    (h : PE X (.Call (.Attribute o name apos) [] [] cpos) (tBM0 X.K "list" r (tM X.K c mo))) : EM X c (.Call (.Attribute o name apos) [] [] cpos) (mthM f mo nilA) := pe_wk h fun σ H Q ⟨W, h, s, e, S, rs, p⟩ => by
  subst e
  refine ⟨W, h, s, rfl, S, rs, p.bnd fun W1 h1 x x1 S1 p1 v r1 => ?_⟩
  by_cases q : isL h1 x = true
  · rw [if_pos q] at p1
    exact ⟨isL_ty S1 r1 q, hf W1 h1 x [] v [] Q S1 r1 .nil p1⟩
  · rw [if_neg q] at p1
    exact p1.elim
theorem mm_app : MthM K c rAppend appF := fun W h x ys v vs Q S r rs p => by
  unfold appF at p
  split at p
  · rename_i l y
    obtain ⟨u, rfl, ry⟩ := rvs_one rs
    cases hl : h[l]? with
    | none =>
      rw [hl] at p
      exact p.elim
    | some o =>
      rw [hl] at p
      cases o with
      | dead => exact p.elim
      | dK kvs => exact p.elim
      | lst xs =>
        dsimp only at p
        by_cases q : xs.length < lim
        · rw [if_pos q] at p
          obtain ⟨a, ws, rfl, e2, e3, t⟩ := S.lstAt hl r
          refine ⟨a, ws, u, rfl, rfl, e3, Nat.lt_of_lt_of_le (by rw [← t.length]; exact q) (lim_line (Nat.le_refl _)), ?_⟩
          exact p (W.wr a (.lst (ws ++ [u]))) (Ext.wr S e2) (S.wr e2 ⟨_, upd_same, ((t.append (.one ry)).mono (Ext.wr S e2))⟩) _ .non
        · rw [if_neg q] at p
          exact p.elim
  · exact p.elim
theorem RVs.dropLast {xs : List MV} {vs : List V} (t : RVs K W xs vs) : RVs K W xs.dropLast vs.dropLast := by
  rw [List.dropLast_eq_take, List.dropLast_eq_take, ← t.length]
  exact t.take _
theorem mm_pop : MthM K c rPop popF := fun W h x ys v vs Q S r rs p => by
  unfold popF at p
  split at p
  · rename_i l
    cases rs
    cases hl : h[l]? with
    | none =>
      rw [hl] at p
      exact p.elim
    | some o =>
      rw [hl] at p
      cases o with
      | dead => exact p.elim
      | dK kvs => exact p.elim
      | lst xs =>
        dsimp only at p
        cases hy : xs[xs.length - 1]? with
        | none =>
          rw [hy] at p
          exact p.elim
        | some y =>
          rw [hy] at p
          obtain ⟨a, ws, rfl, e2, e3, t⟩ := S.lstAt hl r
          obtain ⟨u, hu, ru⟩ := t.get hy
          refine ⟨a, ws, u, rfl, rfl, e3, by rw [← t.length]; exact hu, ?_⟩
          exact p (W.wr a (.lst ws.dropLast)) (Ext.wr S e2) (S.wr e2 ⟨_, upd_same, t.dropLast.mono (Ext.wr S e2)⟩) u (ru.mono (Ext.wr S e2))
  · exact p.elim
theorem mm_popAt : MthM K c rPopAt popAtF := fun W h x ys v vs Q S r rs p => by
  unfold popAtF at p
  split at p
  · rename_i l i
    obtain ⟨w, rfl, ri⟩ := rvs_one rs
    cases hl : h[l]? with
    | none =>
      rw [hl] at p
      exact p.elim
    | some o =>
      rw [hl] at p
      cases o with
      | dead => exact p.elim
      | dK kvs => exact p.elim
      | lst xs =>
        dsimp only at p
        cases hk : ixN xs.length i with
        | none =>
          rw [hk] at p
          exact p.elim
        | some k =>
          rw [hk] at p
          dsimp only at p
          cases hy : xs[k]? with
          | none =>
            rw [hy] at p
            exact p.elim
          | some y =>
            rw [hy] at p
            dsimp only at p
            by_cases q : xs.length ≤ lim
            · rw [if_pos q] at p
              obtain ⟨a, ws, rfl, e2, e3, t⟩ := S.lstAt hl r
              obtain ⟨u, hu, ru⟩ := t.get hy
              obtain ⟨h1, h2, h3, h4⟩ := ixN_seq hk
              have hlim : lim = 1000000 := rfl
              refine ⟨a, ws, i, k, u, rfl, by rw [rv_int ri], e3, by omega, by omega, by rw [← t.length]; exact h1, hu, ?_⟩
              exact p (W.wr a (.lst (ws.eraseIdx k))) (Ext.wr S e2) (S.wr e2 ⟨_, upd_same, (t.eraseIdx k).mono (Ext.wr S e2)⟩) u (ru.mono (Ext.wr S e2))
            · rw [if_neg q] at p
              exact p.elim
  · exact p.elim
theorem mm_ext : MthM K c rExtend extF := fun W h x ys v vs Q S r rs p => by
  unfold extF at p
  split at p
  · rename_i l k
    obtain ⟨w, rfl, ri⟩ := rvs_one rs
    cases hl : h[l]? with
    | none =>
      simp only [hl] at p
      exact p.elim
    | some o =>
      cases hk : h[k]? with
      | none =>
        cases o <;> (simp only [hl, hk] at p; exact p.elim)
      | some o2 =>
        cases o with
        | dead =>
          simp only [hl, hk] at p
          exact p.elim
        | dK kvs =>
          simp only [hl, hk] at p
          exact p.elim
        | lst xs =>
          cases o2 with
          | dead =>
            simp only [hl, hk] at p
            exact p.elim
          | dK kvs =>
            simp only [hl, hk] at p
            exact p.elim
          | lst zs =>
            simp only [hl, hk] at p
            by_cases q : xs.length + zs.length ≤ lim
            · rw [if_pos q] at p
              obtain ⟨a, ws, rfl, e2, e3, t⟩ := S.lstAt hl r
              obtain ⟨a2, ws2, rfl, e22, e32, t2⟩ := S.lstAt hk ri
              refine ⟨a, a2, ws, ws2, rfl, rfl, e3, e32, by rw [← t.length, ← t2.length]; exact lim_line q, ?_⟩
              exact p (W.wr a (.lst (ws ++ ws2))) (Ext.wr S e2) (S.wr e2 ⟨_, upd_same, (t.append t2).mono (Ext.wr S e2)⟩) _ .non
            · rw [if_neg q] at p
              exact p.elim
  · rename_i l zs
    obtain ⟨w, rfl, ri⟩ := rvs_one rs
    cases hl : h[l]? with
    | none =>
      rw [hl] at p
      exact p.elim
    | some o =>
      rw [hl] at p
      cases o with
      | dead => exact p.elim
      | dK kvs => exact p.elim
      | lst xs =>
        dsimp only at p
        by_cases q : xs.length + zs.length ≤ lim
        · rw [if_pos q] at p
          obtain ⟨a, ws, rfl, e2, e3, t⟩ := S.lstAt hl r
          cases ri with
          | fls s2 e32 t2 =>
            refine ⟨a, _, ws, _, rfl, rfl, e3, e32, by rw [← t.length, ← t2.length]; exact lim_line q, ?_⟩
            exact p (W.wr a (.lst (ws ++ _))) (Ext.wr S e2) (S.wr e2 ⟨_, upd_same, (t.append t2).mono (Ext.wr S e2)⟩) _ .non
        · rw [if_neg q] at p
          exact p.elim
  · exact p.elim
theorem mm_rev : MthM K c rReverse revF := fun W h x ys v vs Q S r rs p => by
  unfold revF at p
  split at p
  · rename_i l
    cases rs
    cases hl : h[l]? with
    | none =>
      rw [hl] at p
      exact p.elim
    | some o =>
      rw [hl] at p
      cases o with
      | dead => exact p.elim
      | dK kvs => exact p.elim
      | lst xs =>
        obtain ⟨a, ws, rfl, e2, e3, t⟩ := S.lstAt hl r
        exact ⟨a, ws, rfl, rfl, e3, p (W.wr a (.lst ws.reverse)) (Ext.wr S e2) (S.wr e2 ⟨_, upd_same, t.reverse.mono (Ext.wr S e2)⟩) _ .non⟩
  · exact p.elim
end
end Mi
set_option maxHeartbeats 2000000
/-! Mi: slices, lists put together, ranges as lists, sorted. -/
namespace Mi
open PySem L2
/-! ### slices -/
def cutM (xs : List MV) (lo hi : Option Int) : List MV := (xs.drop (HT.sIx xs.length 0 lo)).take (HT.sIx xs.length xs.length hi - HT.sIx xs.length 0 lo)
@[simp ↓] def noO : MM (Option Int) := fun _ h => ok none h
@[simp ↓] def someO (m : ME) : MM (Option Int) := fun s h => (m s h).bnd fun x h1 => match x with
  | .int i => ok (some i) h1
  | _ => none
@[simp ↓] def sliL (m : ME) (lo hi : MM (Option Int)) : MM (List MV) := fun s h => (m s h).bnd fun x h1 => (lo s h1).bnd fun a h2 => (hi s h2).bnd fun b h3 => match lstOf h3 x with
  | some xs => ok (cutM xs a b) h3
  | none => none
@[simp ↓] def sliT (m : ME) (lo hi : MM (Option Int)) : ME := fun s h => (m s h).bnd fun x h1 => (lo s h1).bnd fun a h2 => (hi s h2).bnd fun b h3 => match x with
  | .tup xs => ok (.tup (cutM xs a b)) h3
  | x => match lstOf h3 x with
    | some xs => ok (.fls (cutM xs a b)) h3
    | none => none
@[simp ↓] def rvsL (m : ME) : MM (List MV) := fun s h => (m s h).bnd fun x h1 => match lstOf h1 x with
  | some xs => ok xs.reverse h1
  | none => none
section
variable {X : Cx} {c : XC} {e : Expr} {pos p2 : Pos} {K : PySem.W.Frag} {W : Wd}
theorem RVs.cut {xs : List MV} {vs : List V} (t : RVs K W xs vs) (lo hi : Option Int) : RVs K W (cutM xs lo hi) (cutV vs lo hi) := by
  unfold cutM cutV
  rw [← t.length]
  exact (t.drop _).take _
theorem om_none : PO X none (tMO X.K c noO) := po_wk po_none fun σ H Q ⟨W, h, s, e, S, rs, p⟩ => by
  subst e
  exact p W (Ext.refl W) S
theorem om_some {m : ME} (h : EM X c e m) : PO X (some e) (tMO X.K c (someO m)) := po_wk (po_some h) fun σ H Q ⟨W, h, s, e, S, rs, p⟩ => by
  subst e
  refine ⟨W, h, s, rfl, S, rs, p.bnd fun W1 h1 x x1 S1 p1 v r1 => ?_⟩
  cases x <;> first | exact p1.elim | skip
  rename_i i
  exact ⟨i, rv_int r1, Pst.now p1 S1⟩
theorem lm_sli {m : ME} {lo hi : Option Expr} {ml mh : MM (Option Int)} (he : EM X c e m) (hl : PO X lo (tMO X.K c ml)) (hh : PO X hi (tMO X.K c mh)) : LM X c (.Subscript e (.Slice lo hi none p2) pos) (sliL m ml mh) :=
  pe_wk (pe_slice sl_list he hl hh) fun σ H Q ⟨W, h, s, e, S, rs, p⟩ => by
    subst e
    refine ⟨W, h, s, rfl, S, rs, p.bnd fun W1 h1 x x1 S1 p1 v r1 => ?_⟩
    refine ⟨W1, h1, s, rfl, S1, rs.mono x1, p1.bnd fun W2 h2 a x2 S2 p2 => ?_⟩
    refine ⟨W2, h2, s, rfl, S2, (rs.mono x1).mono x2, p2.bnd fun W3 h3 b x3 S3 p3 => ?_⟩
    cases hx : lstOf h3 x with
    | none =>
      rw [hx] at p3
      exact p3.elim
    | some xs =>
      rw [hx] at p3
      obtain ⟨q, vs, e1, e2, t⟩ := lst_sq S3 ((r1.mono x2).mono x3) hx
      exact ⟨q, vs, e1, e2, fun d hd => p3 W3 (Ext.refl _) S3 _ d (t.cut a b) hd⟩
theorem em_sli {m : ME} {lo hi : Option Expr} {ml mh : MM (Option Int)} (he : EM X c e m) (hl : PO X lo (tMO X.K c ml)) (hh : PO X hi (tMO X.K c mh)) : EM X c (.Subscript e (.Slice lo hi none p2) pos) (sliT m ml mh) :=
  pe_wk (pe_slice (SlR.or sl_list sl_tupA) he hl hh) fun σ H Q ⟨W, h, s, e, S, rs, p⟩ => by
    subst e
    refine ⟨W, h, s, rfl, S, rs, p.bnd fun W1 h1 x x1 S1 p1 v r1 => ?_⟩
    refine ⟨W1, h1, s, rfl, S1, rs.mono x1, p1.bnd fun W2 h2 a x2 S2 p2 => ?_⟩
    refine ⟨W2, h2, s, rfl, S2, (rs.mono x1).mono x2, p2.bnd fun W3 h3 b x3 S3 p3 => ?_⟩
    have r3 := (r1.mono x2).mono x3
    have go : Pst X.K c (CV X.K Q) W3 (match lstOf h3 x with | some xs => ok (.fls (cutM xs a b)) h3 | none => none) → rSlL X.K v a b W3.H Q := fun p3 => by
      cases hx : lstOf h3 x with
      | none =>
        rw [hx] at p3
        exact p3.elim
      | some xs =>
        rw [hx] at p3
        obtain ⟨q, vs, e1, e2, t⟩ := lst_sq S3 r3 hx
        exact ⟨q, vs, e1, e2, fun d hd => p3 (W3.put d _) (Ext.put S3 hd) (S3.put hd) (.ref d) (.fls (S3.fresh hd) upd_same ((t.cut a b).mono (Ext.put S3 hd)))⟩
    cases x with
    | tup xs =>
      obtain ⟨q, vs, rfl, e2, t⟩ := tup_sq r3
      refine .inr ⟨q, vs, rfl, e2, fun hw => ?_, fun hw d hd => ?_⟩
      · have ec : cutM xs a b = xs := by
          unfold cutM
          rw [t.length, hw.1, hw.2, ← t.length]
          simp
        have p4 : Pst X.K c (CV X.K Q) W3 (ok (.tup (cutM xs a b)) h3) := p3
        rw [ec] at p4
        exact Pst.now p4 S3 _ r3
      · exact p3 (W3.put d _) (Ext.put S3 hd) (S3.put hd) (.ref d) (.tup (S3.fresh hd) upd_same ((t.cut a b).mono (Ext.put S3 hd)))
    | _ => exact .inl (go p3)
theorem lm_rvs {m : ME} {k : Nat} {q1 q2 q3 : Pos} (he : EM X c e m) : LM X c (.Subscript e (.Slice none none (some (.UnaryOp .USub (.Constant (.int 1) k q1) q2)) q3) pos) (rvsL m) := pe_wk (pe_revL he) fun σ H Q ⟨W, h, s, e, S, rs, p⟩ => by
  subst e
  refine ⟨W, h, s, rfl, S, rs, p.bnd fun W1 h1 x x1 S1 p1 v r1 => ?_⟩
  cases hx : lstOf h1 x with
  | none =>
    rw [hx] at p1
    exact p1.elim
  | some xs =>
    rw [hx] at p1
    obtain ⟨q, vs, e1, e2, t⟩ := lst_sq S1 r1 hx
    exact ⟨q, vs, e1, e2, fun d hd => p1 W1 (Ext.refl _) S1 _ d t.reverse hd⟩
end
/-! ### lists put together -/
@[simp ↓] def wlstOf (h : MH) : MV → Option (List MV)
  | .fls xs => some xs
  | .ref l => match h[l]? with
    | some (.lst xs) => some xs
    | _ => none
  | _ => none
@[simp ↓] def catL (a b : ME) : MM (List MV) := fun s h => (a s h).bnd fun x h1 => (b s h1).bnd fun y h2 => match wlstOf h2 x, wlstOf h2 y with
  | some xs, some ys => if xs.length + ys.length ≤ lim then ok (xs ++ ys) h2 else none
  | _, _ => none
@[simp ↓] def repL (a b : ME) : MM (List MV) := fun s h => (a s h).bnd fun x h1 => (b s h1).bnd fun y h2 => match wlstOf h2 x, y with
  | some xs, .int k => if (k ≤ 1000000 ∧ -1000000 ≤ k) ∧ xs.length * k.toNat ≤ lim then ok (List.replicate k.toNat xs).flatten h2 else none
  | _, _ => none
@[simp ↓] def rgL (a : ME) : MM (List MV) := fun s h => (a s h).bnd fun x h1 => match x with
  | .int n => if n ≤ 1000000 ∧ -1000000 ≤ n then ok (runOf 0 n.toNat) h1 else none
  | _ => none
@[simp ↓] def rgT (a : ME) : ME := fun s h => (a s h).bnd fun x h1 => match x with
  | .int n => if n ≤ 1000000 ∧ -1000000 ≤ n then ok (.tup (runOf 0 n.toNat)) h1 else none
  | _ => none
section
variable {X : Cx} {c : XC} {a b : Expr} {pos p p2 : Pos} {K : PySem.W.Frag} {W : Wd}
theorem wlst_sq {h : MH} {x : MV} {v : V} {xs : List MV} (S : Sim K W h) (r : RV K W x v) (e : wlstOf h x = some xs) : ∃ p vs, v = .ref p ∧ W.H p = some (.lst vs) ∧ RVs K W xs vs := by
  cases x with
  | fls ys =>
    cases e
    cases r with
    | fls s q t => exact ⟨_, _, rfl, q, t⟩
  | ref l =>
    have e' : (match h[l]? with | some (.lst xs) => some xs | _ => none) = some xs := e
    cases hl : h[l]? with
    | none =>
      rw [hl] at e'
      cases e'
    | some o =>
      rw [hl] at e'
      cases o with
      | lst ys =>
        cases e'
        obtain ⟨a, vs, e1, e2, e3, r3⟩ := S.lstAt hl r
        exact ⟨a, vs, e1, e3, r3⟩
      | dead => cases e'
      | dK kvs => cases e'
  | _ => cases e
theorem lm_cat {ma mb : ME} (ha : EM X c a ma) (hb : EM X c b mb) : LM X c (.BinOp a .Add b pos) (catL ma mb) := pe_wk (pe_op op_cat ha hb) fun σ H Q ⟨W, h, s, e, S, rs, p⟩ => by
  subst e
  refine ⟨W, h, s, rfl, S, rs, p.bnd fun W1 h1 x x1 S1 p1 u r1 => ?_⟩
  refine ⟨W1, h1, s, rfl, S1, rs.mono x1, p1.bnd fun W2 h2 y x2 S2 p2 v r2 => ?_⟩
  cases hx : wlstOf h2 x with
  | none =>
    simp only [hx] at p2
    exact p2.elim
  | some xs =>
    cases hy : wlstOf h2 y with
    | none =>
      simp only [hx, hy] at p2
      exact p2.elim
    | some ys =>
      simp only [hx, hy] at p2
      by_cases q : xs.length + ys.length ≤ lim
      · rw [if_pos q] at p2
        obtain ⟨d1, vs, e1, e2, t1⟩ := wlst_sq S2 (r1.mono x2) hx
        obtain ⟨d2, ws, e3, e4, t2⟩ := wlst_sq S2 r2 hy
        exact ⟨d1, d2, vs, ws, e1, e3, e2, e4, by rw [← t1.length, ← t2.length]; exact lim_line q, fun d hd => p2 W2 (Ext.refl _) S2 _ d (t1.append t2) hd⟩
      · rw [if_neg q] at p2
        exact p2.elim
theorem RVs.rep {xs : List MV} {vs : List V} (t : RVs K W xs vs) : ∀ k : Nat, RVs K W (List.replicate k xs).flatten (List.replicate k vs).flatten
  | 0 => .nil
  | k + 1 => by
    rw [List.replicate_succ, List.replicate_succ, List.flatten_cons, List.flatten_cons]
    exact t.append (RVs.rep t k)
theorem lm_rep {ma mb : ME} (ha : EM X c a ma) (hb : EM X c b mb) : LM X c (.BinOp a .Mult b pos) (repL ma mb) := pe_wk (pe_op op_rep ha hb) fun σ H Q ⟨W, h, s, e, S, rs, p⟩ => by
  subst e
  refine ⟨W, h, s, rfl, S, rs, p.bnd fun W1 h1 x x1 S1 p1 u r1 => ?_⟩
  refine ⟨W1, h1, s, rfl, S1, rs.mono x1, p1.bnd fun W2 h2 y x2 S2 p2 v r2 => ?_⟩
  cases hx : wlstOf h2 x with
  | none =>
    simp only [hx] at p2
    exact p2.elim
  | some xs =>
    cases y <;> first | (simp only [hx] at p2; exact p2.elim) | skip
    rename_i k
    simp only [hx] at p2
    by_cases q : (k ≤ 1000000 ∧ -1000000 ≤ k) ∧ xs.length * k.toNat ≤ lim
    · rw [if_pos q] at p2
      obtain ⟨d1, vs, e1, e2, t1⟩ := wlst_sq S2 (r1.mono x2) hx
      exact ⟨d1, k, vs, e1, rv_int r2, e2, by omega, by omega, by rw [← t1.length]; exact lim_line q.2, fun d hd => p2 W2 (Ext.refl _) S2 _ d (t1.rep _) hd⟩
    · rw [if_neg q] at p2
      exact p2.elim
theorem runOf_V (a : Int) (n : Nat) : RVs K W (runOf a n) ((List.range n).map fun (i : Nat) => V.int (a + (i : Int))) := by
  unfold runOf
  induction List.range n with
  | nil => exact .nil
  | cons i l ih => exact .cons (.int _) ih
theorem rgV_of (n : Int) : rgV 0 n = (List.range n.toNat).map fun (i : Nat) => V.int (0 + (i : Int)) := by
  unfold rgV
  rw [Int.sub_zero]
theorem lm_rg {ma : ME} {p1 : Pos} (hc : X.calm = true) (hg : Gl X "list") (hm : X.mg "list" = none) (hg2 : Gl X "range") (hm2 : X.mg "range" = none) (ha : EM X c a ma) (na : starEach [a] X.env = (false, eval a X.env) :: starEach [] X.env := by rfl)
    (nb : starEach [.Call (.Name "range" p1) [a] [] p2] X.env = (false, eval (.Call (.Name "range" p1) [a] [] p2) X.env) :: starEach [] X.env := by rfl) : LM X c (.Call (.Name "list" p) [.Call (.Name "range" p1) [a] [] p2] [] pos) (rgL ma) :=
  pe_wk (pe_listRg hc hg hm (prg_1 hg2 hm2 ha na) nb) fun σ H Q ⟨W, h, s, e, S, rs, p⟩ => by
    subst e
    refine ⟨W, h, s, rfl, S, rs, p.bnd fun W1 h1 x x1 S1 p1 u r1 => ?_⟩
    cases x <;> first | exact p1.elim | skip
    rename_i n
    have p' : Pst X.K c (CL X.K Q) W1 (if n ≤ 1000000 ∧ -1000000 ≤ n then ok (runOf 0 n.toNat) h1 else none) := p1
    by_cases q : n ≤ 1000000 ∧ -1000000 ≤ n
    · rw [if_pos q] at p'
      exact ⟨n, rv_int r1, ⟨by omega, by omega, by omega, by omega, by omega⟩, fun d hd => by rw [rgV_of]; exact p' W1 (Ext.refl _) S1 _ d (runOf_V 0 _) hd⟩
    · rw [if_neg q] at p'
      exact p'.elim
theorem em_rgT {ma : ME} {p1 : Pos} (hc : X.calm = true) (hg : Gl X "tuple") (hm : X.mg "tuple" = none) (hg2 : Gl X "range") (hm2 : X.mg "range" = none) (ha : EM X c a ma) (na : starEach [a] X.env = (false, eval a X.env) :: starEach [] X.env := by rfl)
    (nb : starEach [.Call (.Name "range" p1) [a] [] p2] X.env = (false, eval (.Call (.Name "range" p1) [a] [] p2) X.env) :: starEach [] X.env := by rfl) : EM X c (.Call (.Name "tuple" p) [.Call (.Name "range" p1) [a] [] p2] [] pos) (rgT ma) :=
  pe_wk (pe_tupRg hc hg hm (prg_1 hg2 hm2 ha na) nb) fun σ H Q ⟨W, h, s, e, S, rs, p⟩ => by
    subst e
    refine ⟨W, h, s, rfl, S, rs, p.bnd fun W1 h1 x x1 S1 p1 u r1 => ?_⟩
    cases x <;> first | exact p1.elim | skip
    rename_i n
    have p' : Pst X.K c (CV X.K Q) W1 (if n ≤ 1000000 ∧ -1000000 ≤ n then ok (.tup (runOf 0 n.toNat)) h1 else none) := p1
    by_cases q : n ≤ 1000000 ∧ -1000000 ≤ n
    · rw [if_pos q] at p'
      refine ⟨n, rv_int r1, ⟨by omega, by omega, by omega, by omega, by omega⟩, fun d hd => ?_⟩
      rw [rgV_of]
      exact p' (W1.put d _) (Ext.put S1 hd) (S1.put hd) (.ref d) (.tup (S1.fresh hd) upd_same (runOf_V 0 _))
    · rw [if_neg q] at p'
      exact p'.elim
end
/-! ### sorted -/
/-- a sort by putting in -/
def insB {α : Type} (le : α → α → Bool) (x : α) : List α → List α
  | [] => [x]
  | y :: ys => if le x y = true then x :: y :: ys else y :: insB le x ys
def srtB {α : Type} (le : α → α → Bool) : List α → List α
  | [] => []
  | x :: xs => insB le x (srtB le xs)
section
variable {α : Type} {le : α → α → Bool}
theorem insB_perm (x : α) : ∀ l : List α, (insB le x l).Perm (x :: l)
  | [] => List.Perm.refl _
  | y :: ys => by
    unfold insB
    by_cases h : le x y = true
    · rw [if_pos h]
    · rw [if_neg h]
      exact ((insB_perm x ys).cons y).trans (List.Perm.swap x y ys)
theorem srtB_perm : ∀ l : List α, (srtB le l).Perm l
  | [] => List.Perm.refl _
  | x :: xs => (insB_perm x _).trans ((srtB_perm xs).cons x)
theorem insB_srt (tot : ∀ a b, le a b = true ∨ le b a = true) (tr : ∀ a b c, le a b = true → le b c = true → le a c = true) (x : α) : ∀ {l : List α}, l.Pairwise (fun a b => le a b = true) → (insB le x l).Pairwise (fun a b => le a b = true)
  | [], _ => List.pairwise_singleton _ x
  | y :: ys, h => by
    obtain ⟨h1, h2⟩ := List.pairwise_cons.mp h
    unfold insB
    by_cases q : le x y = true
    · rw [if_pos q]
      exact List.pairwise_cons.mpr ⟨fun z hz => (List.mem_cons.mp hz).elim (fun e => by rw [e]; exact q) fun hz => tr x y z q (h1 z hz), h⟩
    · rw [if_neg q]
      refine List.pairwise_cons.mpr ⟨fun z hz => ?_, insB_srt tot tr x h2⟩
      rcases List.mem_cons.mp ((insB_perm x ys).mem_iff.mp hz) with e | hz
      · rw [e]
        exact (tot x y).resolve_left q
      · exact h1 z hz
theorem srtB_srt (tot : ∀ a b, le a b = true ∨ le b a = true) (tr : ∀ a b c, le a b = true → le b c = true → le a c = true) : ∀ l : List α, (srtB le l).Pairwise (fun a b => le a b = true)
  | [] => List.Pairwise.nil
  | x :: xs => insB_srt tot tr x (srtB_srt tot tr xs)
theorem srt_uniq (anti : ∀ a b, le a b = true → le b a = true → a = b) (rf : ∀ a, le a a = true) : ∀ {l m : List α}, l.Pairwise (fun a b => le a b = true) → m.Pairwise (fun a b => le a b = true) → l.Perm m → l = m
  | [], m, _, _, h => (List.Perm.eq_nil h.symm).symm
  | x :: l, [], _, _, h => absurd h.length_eq (by simp)
  | x :: l, y :: m, hl, hm, h => by
    obtain ⟨l1, l2⟩ := List.pairwise_cons.mp hl
    obtain ⟨m1, m2⟩ := List.pairwise_cons.mp hm
    have e : x = y := by
      refine anti x y ?_ ?_
      · rcases List.mem_cons.mp (h.mem_iff.mpr (List.mem_cons_self (a := y) (l := m))) with e | hy
        · rw [e]
          exact rf x
        · exact l1 y hy
      · rcases List.mem_cons.mp (h.mem_iff.mp (List.mem_cons_self (a := x) (l := l))) with e | hx
        · rw [e]
          exact rf y
        · exact m1 x hx
    subst e
    rw [srt_uniq anti rf l2 m2 h.cons_inv]
end
def leI (a b : Int) : Bool := decide (a ≤ b)
def leP (p q : Int × Int) : Bool := decide (p.1 < q.1) || (decide (p.1 = q.1) && decide (p.2 ≤ q.2))
theorem leP_iff {p q : Int × Int} : leP p q = true ↔ p.1 < q.1 ∨ (p.1 = q.1 ∧ p.2 ≤ q.2) := by
  unfold leP
  simp
theorem leP_tot (a b : Int × Int) : leP a b = true ∨ leP b a = true := by
  rw [leP_iff, leP_iff]
  omega
theorem leP_tr (a b c : Int × Int) : leP a b = true → leP b c = true → leP a c = true := by
  rw [leP_iff, leP_iff, leP_iff]
  omega
theorem leP_anti (a b : Int × Int) (h1 : leP a b = true) (h2 : leP b a = true) : a = b := by
  rw [leP_iff] at h1 h2
  exact Prod.ext (by omega) (by omega)
def pairOf : MV → Option (Int × Int)
  | .tup [.int a, .int b] => some (a, b)
  | _ => none
def pairsOf : List MV → Option (List (Int × Int))
  | [] => some []
  | x :: xs => match pairOf x, pairsOf xs with
    | some p, some ps => some (p :: ps)
    | _, _ => none
def mvP (p : Int × Int) : MV := .tup [.int p.1, .int p.2]
def sortPF (xs : List MV) (h : MH) : Res (List MV) := match xs with
  | [x] => match (lstOf h x).bind pairsOf with
    | some ps => ok ((srtB leP ps).map mvP) h
    | none => none
  | _ => none
def sortIF (xs : List MV) (h : MH) : Res (List MV) := match xs with
  | [x] => match (lstOf h x).bind intsOf with
    | some ps => ok ((srtB leI ps).map MV.int) h
    | none => none
  | _ => none
section
variable {X : Cx} {c : XC} {K : PySem.W.Frag} {W : Wd}
theorem cl_sortI : CallL K c (rSortedI K) sortIF := fun W h xs vs Q S r p => by
  unfold sortIF at p
  split at p
  · rename_i x
    obtain ⟨v, rfl, r1⟩ := rvs_one r
    cases e : (lstOf h x).bind intsOf with
    | none =>
      rw [e] at p
      exact p.elim
    | some ns =>
      rw [e] at p
      obtain ⟨a, ws, ys, rfl, hq, t, e2⟩ := lst_bind S r1 e
      refine ⟨a, ns, rfl, by rw [← (ints_V t e2).1]; exact hq, fun ns' d pm so hd => ?_⟩
      have en : ns' = srtB leI ns := by
        refine srt_uniq (le := leI) (fun a b h1 h2 => ?_) (fun a => decide_eq_true (Int.le_refl a)) ?_ ?_ (pm.trans (srtB_perm ns).symm)
        · have := of_decide_eq_true h1
          have := of_decide_eq_true h2
          omega
        · exact so.imp fun h => decide_eq_true h
        · refine srtB_srt (fun a b => ?_) (fun a b d h1 h2 => ?_) ns
          · rcases Int.le_total a b with h | h
            · exact .inl (decide_eq_true h)
            · exact .inr (decide_eq_true h)
          · exact decide_eq_true (Int.le_trans (of_decide_eq_true h1) (of_decide_eq_true h2))
      subst en
      refine p W (Ext.refl W) S _ d ?_ hd
      induction srtB leI ns with
      | nil => exact .nil
      | cons i l ih => exact .cons (.int i) ih
  · exact p.elim
/-- the key of a pair that stands in the heap -/
def keyV (H : Hp) (v : V) : Int × Int := match v with
  | .ref t => match H t with
    | some (.tup [.int a, .int b]) => (a, b)
    | _ => (0, 0)
  | _ => (0, 0)
theorem pair_V {x : MV} {v : V} {q : Int × Int} (r : RV K W x v) (e : pairOf x = some q) : x = mvP q ∧ ∃ t, v = .ref t ∧ W.H t = some (.tup [.int q.1, .int q.2]) := by
  unfold pairOf at e
  split at e
  · rename_i a b
    cases e
    cases r with
    | tup s q t =>
      obtain ⟨v1, v2, rfl, r1, r2⟩ := rvs_two t
      rw [rv_int r1, rv_int r2] at q
      exact ⟨rfl, _, rfl, q⟩
  · cases e
theorem pairs_V : ∀ {xs : List MV} {vs : List V} {ps : List (Int × Int)}, RVs K W xs vs → pairsOf xs = some ps → (∀ v ∈ vs, ∃ t, v = V.ref t ∧ W.H t = some (.tup [.int (keyV W.H v).1, .int (keyV W.H v).2])) ∧ vs.map (keyV W.H) = ps ∧ ∀ v ∈ vs, RV K W (mvP (keyV W.H v)) v
  | [], _, _, .nil, e => by
    cases e
    exact ⟨(by simp), rfl, by simp⟩
  | x :: xs, _, ps, .cons (v := v) r t, e => by
    unfold pairsOf at e
    cases h : pairOf x with
    | none =>
      rw [h] at e
      cases e
    | some q =>
      cases h2 : pairsOf xs with
      | none =>
        rw [h, h2] at e
        cases e
      | some qs =>
        rw [h, h2] at e
        cases e
        obtain ⟨a, b, d⟩ := pairs_V t h2
        obtain ⟨ex, tt, ev, eH⟩ := pair_V r h
        have ek : keyV W.H v = q := by
          rw [ev]
          show (match W.H tt with | some (.tup [.int a, .int b]) => (a, b) | _ => (0, 0)) = q
          rw [eH]
        refine ⟨fun u hu => ?_, by rw [List.map_cons, ek, b], fun u hu => ?_⟩
        · rcases List.mem_cons.mp hu with e | hu
          · rw [e, ek]
            exact ⟨tt, ev, eH⟩
          · exact a u hu
        · rcases List.mem_cons.mp hu with e | hu
          · rw [e, ek, ← ex]
            exact r
          · exact d u hu
theorem cl_sortP : CallL K c (rSortedPO K) sortPF := fun W h xs vs Q S r p => by
  unfold sortPF at p
  split at p
  · rename_i x
    obtain ⟨v, rfl, r1⟩ := rvs_one r
    cases e : (lstOf h x).bind pairsOf with
    | none =>
      rw [e] at p
      exact p.elim
    | some ns =>
      rw [e] at p
      obtain ⟨a, ws, ys, rfl, hq, t, e2⟩ := lst_bind S r1 e
      obtain ⟨h1, h2, h3⟩ := pairs_V t e2
      refine ⟨a, ws, keyV W.H, rfl, hq, h1, fun zs d so st hd => ?_⟩
      have en : zs.map (keyV W.H) = srtB leP ns := by
        refine srt_uniq (le := leP) leP_anti (fun a => leP_iff.mpr (.inr ⟨rfl, Int.le_refl _⟩)) ?_ (srtB_srt leP_tot leP_tr ns) ?_
        · refine List.pairwise_map.mpr (List.Pairwise.imp (fun {a b} (h : ltP (keyV W.H) b a = false) => ?_) so)
          have := SrtO.lexB_no.mp h
          rw [leP_iff]
          omega
        · rw [← h2]
          exact (st.perm.map _).trans ((srtB_perm (ws.map (keyV W.H))).symm)
      refine p W (Ext.refl W) S _ d ?_ hd
      rw [← en]
      have hm : ∀ u ∈ zs, RV K W (mvP (keyV W.H u)) u := fun u hu => h3 u (st.perm.mem_iff.mp hu)
      clear en so st
      induction zs with
      | nil => exact .nil
      | cons u us ih => exact .cons (hm u (List.mem_cons_self ..)) (ih fun z hz => hm z (List.mem_cons_of_mem _ hz))
  · exact p.elim
end
/-! ### the law's own promise -/
def spLaw (K : PySem.W.Frag) : Sp := fun vs H Q _ => ∃ (a : Addr) (ns : List Int), vs = [.ref a] ∧ SqL K H a (ns.map V.int) ∧ ns.length ≤ 63 ∧ ∀ H', Q (.bl true) H'
theorem law_start {K : PySem.W.Frag} {mg : Str → Option Value} {f : MF} (L : ∀ ns : List Int, ns.length ≤ 63 → ∃ h, f [.frz (ns.map MV.int)] [] = ok (.bl true) h) : ∀ vs H Q E, spLaw K vs H Q E → spM K mg 1 f vs H Q E := fun vs H Q E ⟨a, ns, e, hS, hl, k⟩ => by
  subst e
  have S : Sim K ⟨fun _ => none, 0, H, fun _ => False⟩ [] := ⟨rfl, fun _ _ e => (by cases e), fun _ _ _ e => (by cases e), fun _ _ e => (by cases e), fun _ _ e => (by simp at e), fun _ _ e => (by cases e), fun _ e => e.elim⟩
  have rs : RVs K ⟨fun _ => none, 0, H, fun _ => False⟩ (ns.map MV.int) (ns.map V.int) := by
    clear hl hS
    induction ns with
    | nil => exact .nil
    | cons i l ih => exact .cons (.int i) ih
  refine ⟨⟨fun _ => none, 0, H, fun _ => False⟩, [], [.frz (ns.map MV.int)], rfl, S, .cons ?_ .nil, rfl, ?_⟩
  · rcases hS with hS | hS
    · exact .frz ⟨fun _ e => (by cases e), fun e => e.elim⟩ hS rs
    · exact .frzK (fun _ => .inr hS) rs
  · obtain ⟨h, e⟩ := L ns hl
    rw [e]
    intro W1 x1 S1 v rv
    rw [rv_bl rv]
    exact k _
end Mi
set_option maxHeartbeats 2000000
/-! Mi: how to reckon with mirrors: loops, comprehensions, heaps that are kept, lists of lists. -/
namespace Mi
open PySem L2
/-! ### heaps -/
/-- all places are as they were, but those for which P holds -/
structure Keep (P : Nat → Prop) (h h' : MH) : Prop where
  le : h.length ≤ h'.length
  at_ : ∀ j, j < h.length → ¬ P j → h'[j]? = h[j]?
theorem at_len {h : MH} {l : Nat} {o : MO} (e : h[l]? = some o) : l < h.length := (List.getElem?_eq_some_iff.mp e).1
theorem Keep.refl {P : Nat → Prop} (h : MH) : Keep P h h := ⟨Nat.le_refl _, fun _ _ _ => rfl⟩
theorem Keep.trans {P : Nat → Prop} {h h1 h2 : MH} (a : Keep P h h1) (b : Keep P h1 h2) : Keep P h h2 := ⟨Nat.le_trans a.le b.le, fun j hj hp => (b.at_ j (Nat.lt_of_lt_of_le hj a.le) hp).trans (a.at_ j hj hp)⟩
theorem Keep.weak {P Q : Nat → Prop} {h h1 : MH} (a : Keep P h h1) (i : ∀ j, j < h.length → P j → Q j) : Keep Q h h1 := ⟨a.le, fun j hj hp => a.at_ j hj fun z => hp (i j hj z)⟩
theorem Keep.get {P : Nat → Prop} {h h' : MH} (a : Keep P h h') {j : Nat} {o : MO} (e : h[j]? = some o) (hp : ¬ P j) : h'[j]? = some o := (a.at_ j (at_len e) hp).trans e
theorem Keep.set {P : Nat → Prop} {h h' : MH} {l : Nat} {o : MO} (a : Keep P h h') (hl : l < h.length → P l) : Keep P h (h'.set l o) := ⟨by rw [List.length_set]; exact a.le, fun j hj hp => by
  rw [List.getElem?_set_ne (fun z => hp (by rw [← z]; exact hl (by rw [z]; exact hj)))]
  exact a.at_ j hj hp⟩
theorem Keep.app {P : Nat → Prop} {h h' : MH} {o : MO} (a : Keep P h h') : Keep P h (h' ++ [o]) := ⟨by
  rw [List.length_append]
  exact Nat.le_trans a.le (Nat.le_add_right _ _), fun j hj hp => by
  rw [List.getElem?_append_left (Nat.lt_of_lt_of_le hj a.le)]
  exact a.at_ j hj hp⟩
theorem get_app {h : MH} {o : MO} : (h ++ [o])[h.length]? = some o := by simp
theorem get_app_left {h : MH} {o u : MO} {j : Nat} (e : h[j]? = some u) : (h ++ [o])[j]? = some u := by
  rw [List.getElem?_append_left (at_len e)]
  exact e
theorem get_set {h : MH} {o u : MO} {l : Nat} (e : h[l]? = some u) : (h.set l o)[l]? = some o := List.getElem?_set_self (at_len e)
theorem get_set_ne {h : MH} {o u : MO} {l j : Nat} (e : h[j]? = some u) (n : j ≠ l) : (h.set l o)[j]? = some u := by
  rw [List.getElem?_set_ne (Ne.symm n)]
  exact e
/-! ### loops -/
/-- the loop runs through: each turn goes on -/
theorem forS_ok {bd : MV → MT} (I : Nat → MS → MH → Prop) : ∀ {xs : List MV} {i0 : Nat} {s : MS} {h : MH}, (∀ i x s h, xs[i]? = some x → I (i0 + i) s h → ∃ s' h', (bd x s h = some (.nx s' h') ∨ bd x s h = some (.cnt s' h')) ∧ I (i0 + i + 1) s' h') → I i0 s h →
    ∃ s' h', forS bd xs s h = some (.nx s' h') ∧ I (i0 + xs.length) s' h'
  | [], i0, s, h, _, h0 => ⟨s, h, rfl, h0⟩
  | x :: xs, i0, s, h, hs, h0 => by
    obtain ⟨s1, h1, e, q⟩ := hs 0 x s h rfl h0
    obtain ⟨s2, h2, e2, q2⟩ := forS_ok I (xs := xs) (i0 := i0 + 1) (s := s1) (h := h1) (fun i y s h hy hi => by
      obtain ⟨s', h', e', q'⟩ := hs (i + 1) y s h (by simpa using hy) (by rw [show i0 + (i + 1) = i0 + 1 + i by omega]; exact hi)
      exact ⟨s', h', e', by rw [show i0 + 1 + i + 1 = i0 + (i + 1) + 1 by omega]; exact q'⟩) q
    refine ⟨s2, h2, ?_, by rw [List.length_cons, show i0 + (xs.length + 1) = i0 + 1 + xs.length by omega]; exact q2⟩
    unfold forS
    rcases e with e | e <;> rw [e] <;> exact e2
/-- over range(n) -/
theorem for_run {g : MV → MS → Option MS} {m : MT} (I : Nat → MS → MH → Prop) {a : Int} {n : Nat} {s : MS} {h : MH} (h0 : I 0 s h)
    (hs : ∀ i s h, i < n → I i s h → ∃ s' h', (turnM g m (.int (a + (i : Int))) s h = some (.nx s' h') ∨ turnM g m (.int (a + (i : Int))) s h = some (.cnt s' h')) ∧ I (i + 1) s' h') : ∃ s' h', forS (turnM g m) (runOf a n) s h = some (.nx s' h') ∧ I n s' h' := by
  have := forS_ok (bd := turnM g m) I (xs := runOf a n) (i0 := 0) (s := s) (h := h) (fun i x s h hx hi => by
    obtain ⟨q, e⟩ := runOf_get hx
    subst e
    rw [Nat.zero_add] at hi
    obtain ⟨s', h', e', q'⟩ := hs i s h q hi
    exact ⟨s', h', e', by rw [Nat.zero_add]; exact q'⟩) h0
  rw [runOf_len, Nat.zero_add] at this
  exact this
/-- a comprehension whose parts leave the heap alone -/
theorem lcS_pure {g : MV → MS → Option MS} {cd : MM Bool} {el : ME} {s0 : MS} {h : MH} (c : MV → Bool) (e : MV → MV) : ∀ {xs acc : List MV}, (∀ x ∈ xs, ∃ s1, g x s0 = some s1 ∧ cd s1 h = ok (c x) h ∧ (c x = true → el s1 h = ok (e x) h)) → acc.length + xs.length ≤ lim →
    lcS g cd el s0 xs acc h = ok (acc ++ (xs.filter c).map e) h
  | [], acc, _, _ => by
    show ok acc h = _
    rw [List.filter_nil, List.map_nil, List.append_nil]
  | x :: xs, acc, hs, hl => by
    obtain ⟨s1, e1, e2, e3⟩ := hs x (List.mem_cons_self ..)
    rw [List.length_cons] at hl
    have ih := fun acc h => lcS_pure c e (xs := xs) (acc := acc) (fun y hy => hs y (List.mem_cons_of_mem _ hy)) h
    unfold lcS
    rw [e1]
    show (cd s1 h).bnd _ = _
    rw [e2, bnd_ok]
    cases hc : c x with
    | false =>
      rw [if_neg Bool.false_ne_true, ih acc (by omega), List.filter_cons_of_neg (by rw [hc]; exact Bool.false_ne_true)]
    | true =>
      rw [if_pos rfl, e3 hc, bnd_ok, if_pos (by omega), ih (acc ++ [e x]) (by rw [List.length_append]; show acc.length + 1 + xs.length ≤ lim; omega), List.filter_cons_of_pos hc, List.map_cons, List.append_assoc]
      rfl
/-- one over range(n) -/
theorem lc_run {g : MV → MS → Option MS} {cd : MM Bool} {el : ME} {s0 : MS} {h : MH} {n : Nat} (c : Nat → Bool) (e : Nat → MV) (hn : n ≤ lim) (hs : ∀ i, i < n → ∃ s1, g (.int (i : Int)) s0 = some s1 ∧ cd s1 h = ok (c i) h ∧ (c i = true → el s1 h = ok (e i) h)) :
    lcS g cd el s0 (runOf 0 n) [] h = ok (((List.range n).filter c).map e) h := by
  have nat : ∀ i : Nat, ((0 : Int) + (i : Int)) = (i : Int) := fun i => Int.zero_add _
  have := lcS_pure (g := g) (cd := cd) (el := el) (s0 := s0) (h := h) (fun x => match x with | .int i => c i.toNat | _ => false) (fun x => match x with | .int i => e i.toNat | _ => .non) (xs := runOf 0 n) (acc := []) (fun x hx => by
    obtain ⟨i, hi, ex⟩ := List.mem_map.mp hx
    rw [nat] at ex
    subst ex
    obtain ⟨s1, a1, a2, a3⟩ := hs i (List.mem_range.mp hi)
    exact ⟨s1, a1, by simpa using a2, fun q => by simpa using a3 (by simpa using q)⟩) (by rw [runOf_len]; simpa using hn)
  rw [this, List.nil_append]
  unfold runOf
  rw [List.filter_map, List.map_map]
  have q1 : ((fun x : MV => match x with | .int i => c i.toNat | _ => false) ∘ fun (i : Nat) => MV.int ((0 : Int) + (i : Int))) = c := by
    funext i
    show c ((0 : Int) + (i : Int)).toNat = c i
    rw [nat, Int.toNat_natCast]
  have q2 : ((fun x : MV => match x with | .int i => e i.toNat | _ => MV.non) ∘ fun (i : Nat) => MV.int ((0 : Int) + (i : Int))) = e := by
    funext i
    show e ((0 : Int) + (i : Int)).toNat = e i
    rw [nat, Int.toNat_natCast]
  rw [q1, q2]
/-- a comprehension that changes the heap -/
theorem lcS_ok {g : MV → MS → Option MS} {cd : MM Bool} {el : ME} {s0 : MS} (I : Nat → List MV → MH → Prop) : ∀ {xs : List MV} {i0 : Nat} {acc : List MV} {h : MH}, (∀ i x acc h, xs[i]? = some x → I (i0 + i) acc h → ∃ s1, g x s0 = some s1 ∧ ∃ b h1, cd s1 h = ok b h1 ∧
      (b = true → ∃ y h2, el s1 h1 = ok y h2 ∧ acc.length < lim ∧ I (i0 + i + 1) (acc ++ [y]) h2) ∧ (b = false → I (i0 + i + 1) acc h1)) → I i0 acc h →
    ∃ acc' h', lcS g cd el s0 xs acc h = ok acc' h' ∧ I (i0 + xs.length) acc' h'
  | [], i0, acc, h, _, h0 => ⟨acc, h, rfl, h0⟩
  | x :: xs, i0, acc, h, hs, h0 => by
    obtain ⟨s1, e1, b, h1, e2, ht, hf⟩ := hs 0 x acc h rfl h0
    have ih := fun acc' h' => lcS_ok I (g := g) (cd := cd) (el := el) (s0 := s0) (xs := xs) (i0 := i0 + 1) (acc := acc') (h := h') (fun i y acc h hy hi => by
      obtain ⟨s2, a1, b', h', a2, a3, a4⟩ := hs (i + 1) y acc h (by simpa using hy) (by rw [show i0 + (i + 1) = i0 + 1 + i by omega]; exact hi)
      exact ⟨s2, a1, b', h', a2, by rw [show i0 + 1 + i + 1 = i0 + (i + 1) + 1 by omega]; exact a3, by rw [show i0 + 1 + i + 1 = i0 + (i + 1) + 1 by omega]; exact a4⟩)
    unfold lcS
    rw [e1]
    show ∃ acc' h', (cd s1 h).bnd _ = _ ∧ _
    rw [e2, List.length_cons, show i0 + (xs.length + 1) = i0 + 1 + xs.length by omega]
    simp only [bnd_ok]
    cases b with
    | false =>
      simp only [if_neg Bool.false_ne_true]
      exact ih acc h1 (hf rfl)
    | true =>
      obtain ⟨y, h2, e3, hl, q⟩ := ht rfl
      simp only [if_pos, e3, bnd_ok, if_pos hl]
      exact ih (acc ++ [y]) h2 q
theorem lc_runH {g : MV → MS → Option MS} {cd : MM Bool} {el : ME} {s0 : MS} {n : Nat} (I : Nat → List MV → MH → Prop) {h : MH} (h0 : I 0 [] h) (hs : ∀ i acc h, i < n → I i acc h → ∃ s1, g (.int (i : Int)) s0 = some s1 ∧ ∃ b h1, cd s1 h = ok b h1 ∧
      (b = true → ∃ y h2, el s1 h1 = ok y h2 ∧ acc.length < lim ∧ I (i + 1) (acc ++ [y]) h2) ∧ (b = false → I (i + 1) acc h1)) : ∃ acc' h', lcS g cd el s0 (runOf 0 n) [] h = ok acc' h' ∧ I n acc' h' := by
  have := lcS_ok (g := g) (cd := cd) (el := el) (s0 := s0) I (xs := runOf 0 n) (i0 := 0) (acc := []) (h := h) (fun i x acc h hx hi => by
    obtain ⟨q, e⟩ := runOf_get hx
    rw [Int.zero_add] at e
    subst e
    rw [Nat.zero_add] at hi ⊢
    exact hs i acc h q hi) h0
  rw [runOf_len, Nat.zero_add] at this
  exact this
/-! ### places by numbers -/
theorem ixN_nat {n j : Nat} (hj : j < n) : ixN n (j : Int) = some j := by
  unfold ixN
  rw [if_pos (by omega), if_pos (by omega)]
  simp
theorem ix_lst {h : MH} {x : MV} {xs : List MV} {j : Nat} {y : MV} (hx : seqOf h x = some xs) (e : xs[j]? = some y) (hs : ∀ z, x ≠ .str z := by intro _ z; cases z) : ixF x (.int (j : Int)) h = ok y h := by
  cases x <;> first | exact absurd rfl (hs _) | (unfold ixF; dsimp only; rw [hx]; dsimp only; rw [atI_nat e])
theorem ix_ref {h : MH} {l : Nat} {xs : List MV} {j : Nat} {y : MV} (hx : h[l]? = some (.lst xs)) (e : xs[j]? = some y) : ixF (.ref l) (.int (j : Int)) h = ok y h := ix_lst (by show (match h[l]? with | some (.lst xs) => some xs | _ => none) = some xs; rw [hx]) e
theorem wr_ref {h : MH} {l : Nat} {xs : List MV} {j : Nat} {y : MV} (hx : h[l]? = some (.lst xs)) (e : j < xs.length) : wrF l (j : Int) y h = some (h.set l (.lst (xs.set j y))) := by
  unfold wrF
  rw [hx]
  dsimp only
  rw [ixN_nat e]
/-! ### lists of lists -/
theorem nd_set : ∀ {rs : List Nat} {i a : Nat}, rs.Nodup → a ∉ rs → (rs.set i a).Nodup
  | [], _, _, _, _ => by simp
  | r :: rs, 0, a, n, q => by
    rw [List.set_cons_zero]
    exact List.nodup_cons.mpr ⟨fun z => q (List.mem_cons_of_mem _ z), (List.nodup_cons.mp n).2⟩
  | r :: rs, i + 1, a, n, q => by
    rw [List.set_cons_succ]
    refine List.nodup_cons.mpr ⟨fun z => ?_, nd_set (List.nodup_cons.mp n).2 fun z => q (List.mem_cons_of_mem _ z)⟩
    rcases List.mem_or_eq_of_mem_set z with z | z
    · exact (List.nodup_cons.mp n).1 z
    · exact q (by rw [← z]; exact List.mem_cons_self ..)
structure Mat (h : MH) (R : Nat) (rows : List (List MV)) (lo : Nat) (rs : List Nat) : Prop where
  top : h[R]? = some (.lst (rs.map MV.ref))
  len : rs.length = rows.length
  nd : rs.Nodup
  no : R ∉ rs
  loR : lo ≤ R
  lor : ∀ r ∈ rs, lo ≤ r
  row : ∀ (i r : Nat) (xs : List MV), rs[i]? = some r → rows[i]? = some xs → h[r]? = some (.lst xs)
theorem Mat.getR {h : MH} {R lo : Nat} {rows : List (List MV)} {rs : List Nat} (M : Mat h R rows lo rs) {i : Nat} {xs : List MV} (e : rows[i]? = some xs) : ∃ r, rs[i]? = some r ∧ h[r]? = some (.lst xs) := by
  have hi : i < rs.length := by
    rw [M.len]
    exact (List.getElem?_eq_some_iff.mp e).1
  exact ⟨rs[i], List.getElem?_eq_getElem hi, M.row i _ xs (List.getElem?_eq_getElem hi) e⟩
/-- R[i] -/
theorem Mat.ix {h : MH} {R lo : Nat} {rows : List (List MV)} {rs : List Nat} (M : Mat h R rows lo rs) {i : Nat} {xs : List MV} (e : rows[i]? = some xs) : ∃ r, rs[i]? = some r ∧ h[r]? = some (.lst xs) ∧ ixF (.ref R) (.int (i : Int)) h = ok (.ref r) h := by
  obtain ⟨r, a, b⟩ := M.getR e
  exact ⟨r, a, b, ix_ref M.top (by rw [List.getElem?_map, a]; rfl)⟩
/-- R[i][j] = y -/
theorem Mat.wr {h : MH} {R lo : Nat} {rows : List (List MV)} {rs : List Nat} (M : Mat h R rows lo rs) {i r : Nat} {xs ys : List MV} (er : rs[i]? = some r) (e : rows[i]? = some xs) : Mat (h.set r (MO.lst ys)) R (rows.set i ys) lo rs where
  top := get_set_ne M.top fun z => M.no (by rw [z]; exact List.mem_of_getElem? er)
  len := by
    rw [List.length_set]
    exact M.len
  nd := M.nd
  no := M.no
  loR := M.loR
  lor := M.lor
  row := fun k r' zs hr hz => by
    by_cases hk : i = k
    · subst hk
      rw [er] at hr
      cases hr
      rw [List.getElem?_set_self (List.getElem?_eq_some_iff.mp e).1] at hz
      cases hz
      exact get_set (M.row i r xs er e)
    · rw [List.getElem?_set_ne hk] at hz
      refine get_set_ne (M.row k r' zs hr hz) fun z => hk ?_
      subst z
      exact nd_ix M.nd er hr
/-- R[i] = a new list -/
theorem Mat.put {h : MH} {R lo : Nat} {rows : List (List MV)} {rs : List Nat} (M : Mat h R rows lo rs) {i : Nat} {ys : List MV} (hlo : lo ≤ h.length) : Mat ((h ++ [MO.lst ys]).set R (MO.lst ((rs.set i h.length).map MV.ref))) R (rows.set i ys) lo (rs.set i h.length) := by
  have new : ∀ r ∈ rs, r < h.length := fun r hr => by
    obtain ⟨i, hi⟩ := List.getElem?_of_mem hr
    obtain ⟨xs, hx⟩ : ∃ xs, rows[i]? = some xs := ⟨_, List.getElem?_eq_getElem (by rw [← M.len]; exact (List.getElem?_eq_some_iff.mp hi).1)⟩
    exact at_len (M.row i r xs hi hx)
  have nR : R ≠ h.length := Nat.ne_of_lt (at_len M.top)
  have nin : h.length ∉ rs := fun z => Nat.lt_irrefl _ (new _ z)
  refine ⟨get_set (get_app_left M.top), by rw [List.length_set, List.length_set]; exact M.len, ?_, fun z => ?_, M.loR, fun r hr => ?_, fun k r zs hr hz => ?_⟩
  · exact nd_set M.nd nin
  · rcases List.mem_or_eq_of_mem_set z with z | z
    · exact M.no z
    · exact nR z
  · rcases List.mem_or_eq_of_mem_set hr with z | z
    · exact M.lor r z
    · rw [z]
      exact hlo
  · by_cases hk : i = k
    · subst hk
      have hi : i < rs.length := by
        have := (List.getElem?_eq_some_iff.mp hr).1
        rw [List.length_set] at this
        exact this
      rw [List.getElem?_set_self hi] at hr
      rw [List.getElem?_set_self (by rw [← M.len]; exact hi)] at hz
      cases hr
      cases hz
      exact get_set_ne get_app (Ne.symm nR)
    · rw [List.getElem?_set_ne hk] at hr hz
      have e := M.row k r zs hr hz
      exact get_set_ne (get_app_left e) fun z => M.no (by rw [← z]; exact List.mem_of_getElem? hr)
theorem Mat.keep {h h' : MH} {R lo : Nat} {rows : List (List MV)} {rs : List Nat} (M : Mat h R rows lo rs) {P : Nat → Prop} (k : Keep P h h') (hP : ∀ j, P j → j < lo) : Mat h' R rows lo rs := ⟨k.get M.top fun z => absurd (hP _ z) (by have := M.loR; omega), M.len, M.nd, M.no, M.loR, M.lor,
  fun i r xs hr hx => k.get (M.row i r xs hr hx) fun z => absurd (hP _ z) (by have := M.lor r (List.mem_of_getElem? hr); omega)⟩
/-- a value without places of the heap at its top -/
def flatT : MV → Bool
  | .ref _ => false
  | _ => true
theorem frzL_flat : ∀ {xs : List MV} (n : Nat) (h : MH), xs.all flatT = true → frzL (n + 1) xs h = some (xs, h)
  | [], n, h, _ => by
    unfold frzL
    rfl
  | x :: xs, n, h, e => by
    rw [List.all_cons, Bool.and_eq_true] at e
    unfold frzL
    have e1 : frzV (n + 1) x h = some (x, h) := by
      unfold frzV
      cases x <;> first | rfl | cases e.1
    rw [e1]
    dsimp only
    rw [frzL_flat n h e.2]
theorem frz_lst {h : MH} {l : Nat} {xs : List MV} (n : Nat) (e : h[l]? = some (.lst xs)) (hf : xs.all flatT = true) : frzV (n + 2) (.ref l) h = some (.fls xs, h.set l .dead) := by
  unfold frzV
  dsimp only
  rw [e]
  dsimp only
  rw [frzL_flat n h hf]
theorem frzL_rows {h : MH} {P : Nat → Prop} : ∀ {rs : List Nat} {rows : List (List MV)} {g : MH} (n : Nat), Keep P h g → (∀ r ∈ rs, r < h.length → P r) → rs.length = rows.length → rs.Nodup → (∀ (i r : Nat) (xs : List MV), rs[i]? = some r → rows[i]? = some xs → g[r]? = some (.lst xs) ∧ xs.all flatT = true) →
    ∃ g', frzL (n + 2) (rs.map MV.ref) g = some (rows.map MV.fls, g') ∧ Keep P h g' ∧ ∀ j, j ∉ rs → g'[j]? = g[j]?
  | [], [], g, n, k, _, _, _, _ => ⟨g, by unfold frzL; rfl, k, fun _ _ => rfl⟩
  | r :: rs, xs :: rows, g, n, k, hp, hl, nd, hr => by
    obtain ⟨e, f⟩ := hr 0 r xs rfl rfl
    obtain ⟨nd1, nd2⟩ := List.nodup_cons.mp nd
    obtain ⟨g', e2, k2, q2⟩ := frzL_rows (rs := rs) (rows := rows) (g := g.set r .dead) n (k.set (hp r (List.mem_cons_self ..))) (fun a ha => hp a (List.mem_cons_of_mem _ ha)) (by simpa using hl) nd2 (fun i a ys ha hy => by
      obtain ⟨e', f'⟩ := hr (i + 1) a ys (by simpa using ha) (by simpa using hy)
      exact ⟨get_set_ne e' fun z => nd1 (by rw [← z]; exact List.mem_of_getElem? ha), f'⟩)
    refine ⟨g', ?_, k2, fun j hj => ?_⟩
    · rw [List.map_cons, List.map_cons]
      unfold frzL
      rw [frz_lst n e f]
      dsimp only
      rw [e2]
    · rw [q2 j fun z => hj (List.mem_cons_of_mem _ z), List.getElem?_set_ne fun z => hj (by rw [z]; exact List.mem_cons_self ..)]
  | [], _ :: _, _, _, _, _, hl, _, _ => by simp at hl
  | _ :: _, [], _, _, _, _, hl, _, _ => by simp at hl
/-- the whole stands still -/
theorem Mat.frz {h0 h : MH} {R lo : Nat} {rows : List (List MV)} {rs : List Nat} (M : Mat h R rows lo rs) {P : Nat → Prop} (k : Keep P h0 h) (hlo : h0.length ≤ lo) (hf : ∀ xs ∈ rows, xs.all flatT = true) : ∃ h', frzV 4 (.ref R) h = some (.fls (rows.map MV.fls), h') ∧ Keep P h0 h' := by
  obtain ⟨g, e, k2, q⟩ := frzL_rows (h := h0) (P := P) (rs := rs) (rows := rows) (g := h) 1 k (fun r hr hlt => absurd (M.lor r hr) (by omega)) M.len M.nd fun i r xs hr hx => ⟨M.row i r xs hr hx, hf xs (List.mem_of_getElem? hx)⟩
  refine ⟨g.set R .dead, ?_, k2.set fun hlt => absurd M.loR (by omega)⟩
  unfold frzV
  dsimp only
  rw [M.top]
  dsimp only
  rw [e]
theorem keeps {P : Nat → Prop} {h : MH} (os : List MO) : Keep P h (h ++ os) := ⟨by
  rw [List.length_append]
  exact Nat.le_add_right _ _, fun j hj _ => List.getElem?_append_left hj⟩
/-- F 0, F 1, .. F (n - 1) -/
def tb {α : Type} (n : Nat) (F : Nat → α) : List α := (List.range n).map F
@[simp] theorem tb_len {α : Type} {n : Nat} {F : Nat → α} : (tb n F).length = n := by simp [tb]
theorem tb_get {α : Type} {n i : Nat} {F : Nat → α} (h : i < n) : (tb n F)[i]? = some (F i) := by simp [tb, h]
theorem tb_some {α : Type} {n i : Nat} {F : Nat → α} {x : α} (h : (tb n F)[i]? = some x) : i < n ∧ x = F i := by
  have hi := (List.getElem?_eq_some_iff.mp h).1
  rw [tb_len] at hi
  rw [tb_get hi] at h
  exact ⟨hi, (Option.some.inj h).symm⟩
theorem tb_mem {α : Type} {n : Nat} {F : Nat → α} {x : α} : x ∈ tb n F ↔ ∃ i, i < n ∧ F i = x := by simp [tb]
theorem tb_set {α : Type} {n i : Nat} {F : Nat → α} {y : α} : (tb n F).set i y = tb n fun k => if k = i then y else F k := by
  apply List.ext_getElem?
  intro j
  rw [List.getElem?_set]
  by_cases hj : j < n
  · rw [tb_get hj, tb_get hj, tb_len]
    by_cases hi : i = j
    · subst hi
      rw [if_pos rfl, if_pos hj, if_pos rfl]
    · rw [if_neg hi, if_neg (Ne.symm hi)]
  · have e : ∀ G : Nat → α, (tb n G)[j]? = none := fun G => List.getElem?_eq_none (by rw [tb_len]; omega)
    rw [e, e, tb_len]
    by_cases hi : i = j
    · subst hi
      rw [if_pos rfl, if_neg hj]
    · rw [if_neg hi]
theorem tb_map {α β : Type} {n : Nat} {F : Nat → α} {G : α → β} : (tb n F).map G = tb n fun k => G (F k) := by simp [tb]
theorem tb_congr {α : Type} {n : Nat} {F G : Nat → α} (h : ∀ i, i < n → F i = G i) : tb n F = tb n G := List.map_congr_left fun i hi => h i (List.mem_range.mp hi)
theorem tb_succ {α : Type} {n : Nat} {F : Nat → α} : tb (n + 1) F = tb n F ++ [F n] := by simp [tb, List.range_succ]
theorem tb_nd {n a : Nat} : (tb n fun k => a + k).Nodup := by
  unfold tb
  refine List.Pairwise.map _ (R := (· ≠ ·)) (S := (· ≠ ·)) (fun x y h => by omega) List.nodup_range
/-- all of range(n), with no test -/
theorem lc_tb {g : MV → MS → Option MS} {el : ME} {s0 : MS} {h : MH} {n : Nat} (e : Nat → MV) (hn : n ≤ lim) (hs : ∀ i, i < n → ∃ s1, g (.int (i : Int)) s0 = some s1 ∧ el s1 h = ok (e i) h) :
    lcS g yesT el s0 (runOf 0 n) [] h = ok (tb n e) h := by
  have := lc_run (g := g) (cd := yesT) (el := el) (s0 := s0) (h := h) (fun _ => true) e hn fun i hi => by
    obtain ⟨s1, a, b⟩ := hs i hi
    exact ⟨s1, a, rfl, fun _ => b⟩
  rw [show (List.range n).filter (fun _ => true) = List.range n from List.filter_eq_self.mpr fun _ _ => rfl] at this
  exact this
/-- a list of new lists -/
theorem lc_refs {g : MV → MS → Option MS} {s0 : MS} {h : MH} {n : Nat} {m : MM (List MV)} (row : Nat → List MV) (hn : n ≤ lim) (hs : ∀ i h, i < n → ∃ s1, g (.int (i : Int)) s0 = some s1 ∧ m s1 h = ok (row i) h) :
    lcS g yesT (refM m) s0 (runOf 0 n) [] h = ok (tb n fun k => MV.ref (h.length + k)) (h ++ tb n fun k => MO.lst (row k)) := by
  obtain ⟨acc, h', e, e1, e2⟩ := lc_runH (g := g) (cd := yesT) (el := refM m) (s0 := s0) (n := n) (h := h) (fun i acc h' => acc = (tb i fun k => MV.ref (h.length + k)) ∧ h' = h ++ tb i fun k => MO.lst (row k)) ⟨rfl, by simp [tb]⟩ (fun i acc h' hi ⟨e1, e2⟩ => by
    obtain ⟨s1, a, b⟩ := hs i h' hi
    refine ⟨s1, a, true, h', rfl, fun _ => ⟨.ref h'.length, h' ++ [.lst (row i)], ?_, ?_, ?_, ?_⟩, fun z => nomatch z⟩
    · show (m s1 h').bnd _ = _
      rw [b]
      rfl
    · rw [e1, tb_len]
      omega
    · rw [e1, e2, tb_succ, List.length_append, tb_len]
    · rw [e2, tb_succ, List.append_assoc])
  rw [e, e1, e2]
theorem mat_init {h : MH} {n : Nat} (row : Nat → List MV) : Mat (h ++ ((tb n fun k => MO.lst (row k)) ++ [MO.lst (tb n fun k => MV.ref (h.length + k))])) (h.length + n) (tb n row) h.length (tb n fun k => h.length + k) := by
  have e : h ++ ((tb n fun k => MO.lst (row k)) ++ [MO.lst (tb n fun k => MV.ref (h.length + k))]) = (h ++ tb n fun k => MO.lst (row k)) ++ [MO.lst (tb n fun k => MV.ref (h.length + k))] := by rw [List.append_assoc]
  refine ⟨?_, by rw [tb_len, tb_len], tb_nd, fun z => ?_, by omega, fun r hr => ?_, fun i r xs hr hx => ?_⟩
  · rw [e, tb_map]
    have : h.length + n = (h ++ tb n fun k => MO.lst (row k)).length := by rw [List.length_append, tb_len]
    rw [this]
    exact get_app
  · obtain ⟨i, hi, q⟩ := tb_mem.mp z
    omega
  · obtain ⟨i, hi, q⟩ := tb_mem.mp hr
    omega
  · obtain ⟨hi, e1⟩ := tb_some hr
    obtain ⟨_, e2⟩ := tb_some hx
    subst e1
    subst e2
    rw [e]
    refine get_app_left ?_
    rw [List.getElem?_append_right (by omega), show h.length + i - h.length = i by omega, tb_get hi]
/-- a table of truth values, standing still -/
def matV (n k : Nat) (f : Nat → Nat → Bool) : MV := .fls (tb n fun x => .fls (tb k fun y => .bl (f x y)))
end Mi
set_option maxHeartbeats 2000000
/-! Mi: enumerate over what stands still, dicts by numbers and texts. -/
namespace Mi
open PySem L2
/-! ### enumerate(v), one argument -/
set_option maxHeartbeats 1000000 in
theorem enum1_meets {v : Value} {o : Obj} {Fr : Heap → Prop} (B : Begins v o Fr) :
    Meets (Builtin.«enumerate.__new__» ⟨[.type "enumerate", v], []⟩) (fun _ R s => Fr s.heap ∧ R (.ok (.ret (.ref (s.heap.push o).objs.size)))
        { s with heap := (s.heap.push o).push { cls := .type "enumerate", data := .fields #[.none, .bool false, .ref s.heap.objs.size, rawInt 0, .none, .none] } }) :=
  .of_wp fun pr wo A R st h => by
    obtain ⟨hp, g, d, tk, os⟩ := st
    obtain ⟨h1, h2⟩ := h
    have sub1 := sub_enumerate
    have it1 : ∀ {A' : Around} {E : Value → Shared → Prop} {Q : Value → Shared → Prop}, Q (.ref hp.objs.size) ⟨hp.push o, g, d, tk, os⟩ → wpAny (model pr wo) A' (pyIter v) Q E ⟨hp, g, d, tk, os⟩ := fun q => B.iter pr wo _ _ ⟨hp, g, d, tk, os⟩ _ h1 q
    wp_walk using it1
    refine wpAny_stack_any fun _ => wpAny_pure ?_
    split
    · rename_i cc _ _ _ _ _
      cases (cc == Value.type "enumerate") <;> (wp_walk using it1; exact ⟨_, rfl, h2⟩)
    · wp_walk using it1
      exact ⟨_, rfl, h2⟩
theorem enum1_call {prog : Program} {w : World} {A : Around} {E : Value → Shared → Prop} {s : Shared} {v : Value} {o : Obj} {Fr : Heap → Prop} {Q : Value → Shared → Prop} (B : Begins v o Fr) (h1 : Fr s.heap)
    (h : ∀ g, IsEnum g (s.heap.objs.size + 1) s.heap.objs.size 0 .none → g.get? s.heap.objs.size = some o → (∀ b u, s.heap.get? b = some u → g.get? b = some u) → Q (.ref (s.heap.objs.size + 1)) { s with heap := g }) :
    wpAny (model prog w) A (call (.type "enumerate") [v]) Q E s := by
  refine callType_new F.called_enumerate (by decide) (F.typeCall_enumerate_1 _) (F.newCall_enumerate_1 _) (fun obj => F.args_object_init_2 obj _) F.entry_enumerate_new (enum1_meets B) ⟨h1, ?_⟩
  have z : (s.heap.push o).objs.size = s.heap.objs.size + 1 := Heap.size_push ..
  show _ ∧ _
  rw [z]
  have e1 : IsEnum ((s.heap.push o).push { cls := .type "enumerate", data := .fields #[.none, .bool false, .ref s.heap.objs.size, rawInt 0, .none, .none] }) (s.heap.objs.size + 1) s.heap.objs.size 0 .none := by
    have q := Heap.get?_push_size (s.heap.push o) (o := { cls := .type "enumerate", data := .fields #[.none, .bool false, .ref s.heap.objs.size, rawInt 0, .none, .none] }) rfl
    rw [z] at q
    exact q
  exact ⟨⟨_, e1, rfl⟩, h _ e1 (Heap.get?_push_of_some _ (Heap.get?_push_size _ B.free)) fun b u x => Heap.get?_push_of_some _ (Heap.get?_push_of_some _ x)⟩
theorem enumT_end {prog : Program} {w : World} {A : Around} {E : Value → Shared → Prop} {s : Shared} {e it l : Addr} {i : Nat} {items : Array Value} {old : Value} {Q : Option Value → Shared → Prop} (hh : A.handled = none) (he : IsEnum s.heap e it i old)
    (hit : s.heap.IsTupleIter it l i) (hl : s.heap.IsTuple l items) (hx : items[i]? = none) (hQ : ∀ g, Heap.ExtBut it s.heap g → Q none { s with heap := g }) : wpAny (model prog w) A (pyNext (.ref e)) Q E s := by
  have ty : s.TypeIs (.ref e) "enumerate" := ⟨_, he, rfl⟩
  unfold pyNext
  refine wpAny_bind (wpAny_attempt (wpAny_callSpecial?_slot (name := Str.ofString "__next__") ty F.slot_enumerate_next (wpAny_call_entry F.slot_enumerate_next ty F.entry_enumerate_next ?_ (F.args_enumerate_next_1 _))))
  show wpAny _ _ (field (.ref e) 2 >>= _) _ _ _
  refine wpAny_bind (wpAny_field he rfl (x := .ref it) rfl (wpAny_bind (wpAny_nextOf_tuple_end hh hit hl hx fun g x eg hx' => ?_)))
  obtain ⟨o, ho, hc⟩ := hx'
  exact wpAny_bind (wpAny_isInstance (T := "StopIteration") (b := true) ⟨o, ho, hc⟩ isSubtype_stop (wpAny_pure (hQ _ eg)))
/-- the tuple at a, each item in a new pair -/
def Itu (K : PySem.W.Frag) (a : Addr) : It :=
  ⟨fun i H => ∃ (xs : List V) (x : V), SqT K H a xs ∧ xs[i]? = some x, fun i H v H' => ∃ T x, v = .ref T ∧ H T = none ∧ H' = upd H T (.tup [.int (i : Nat), x]) ∧ ∀ xs, SqT K H a xs → xs[i]? = some x, fun i H => ∃ xs : List V, SqT K H a xs ∧ xs.length ≤ i⟩
theorem turn_enumT {P : Program} {w : World} {K : PySem.W.Frag} {elts : List Expr} {kk : Nat} {tpos : Pos} (a e it : Addr) :
    Turn P w K (.Tuple elts kk tpos) (Itu K a) [e, it] e (fun i h => (∃ old, IsEnum h e it ((i : Nat) : Int) old) ∧ h.IsTupleIter it a i ∧ e ≠ it) where
  mem := by simp
  obj := fun i h st b hb => by
    obtain ⟨⟨old, he⟩, ⟨o, ho, hc, hd⟩, _⟩ := st
    rcases (show b = e ∨ b = it by simpa using hb) with z | z <;> rw [z]
    · exact ⟨_, he, fun v q => nomatch q⟩
    · exact ⟨o, ho, fun v q => by rw [hd] at q; cases q⟩
  keep := fun i h h' st k => ⟨⟨st.1.choose, k e (by simp) _ st.1.choose_spec⟩, st.2.1.at fun o q => k it (by simp) o q, st.2.2⟩
  item := by
    intro X hP hw hK hc i pins s σ H E I hf st hg
    subst hP hw hK
    obtain ⟨⟨old, he⟩, hit, hne⟩ := st
    obtain ⟨xs, x, hq, hx⟩ := hg
    obtain ⟨its, rv, p, hz⟩ := I.tuple hq
    obtain ⟨u, hu, ru⟩ := rv.get hx
    have pt : s.heap.IsTuple a its.toArray := p
    have hai : a ≠ it := fun z => by
      subst z
      obtain ⟨o1, a1, a2, _⟩ := pt
      obtain ⟨o2, b1, b2, _⟩ := hit
      rw [a1] at b1
      cases b1
      rw [a2] at b2
      exact absurd b2 (by decide)
    have hae : e ≠ a := fun z => by
      subst z
      obtain ⟨o1, a1, a2, _⟩ := pt
      have he' := he
      unfold IsEnum at he'
      rw [a1] at he'
      cases he'
      exact absurd (show Value.type "enumerate" = Value.type "tuple" from a2) (by decide)
    have hel : e < s.heap.objs.size := Heap.lt_size he
    have hil : it < s.heap.objs.size := hit.elim fun _ q => Heap.lt_size q.1
    have hlt : i < its.toArray.size := by
      have := (List.getElem?_eq_some_iff.mp hu).1
      simpa using this
    refine wpAny_pyNext_enum_itemC (Draws.tuple (A := X.A.in1) (I.ok.hd hc) it a hai its.toArray) he ⟨hit, pt⟩ hlt hne (by simp [hne, hae]) fun x' h' tk hP ho hs' hT hsz hk => ?_
    obtain rfl : x' = u := by
      have : its[i]? = some x' := by simpa using hP
      rw [hu] at this
      exact (Option.some.inj this).symm
    refine ⟨_, rfl, wpAny_letOwnedTupleGo_enum (s := { s with heap := h', toks := tk + 1 }) ho fun g he' sb => ?_⟩
    have hT2 : g.get? s.heap.objs.size = some { cls := .type "tuple", data := .seq #[.int i tk, x'] } := (sb.2 _ (Nat.ne_of_gt hel)).trans hT
    have new : ObjOk X.prog X.w (upd H s.heap.objs.size (.tup [.int (i : Nat), x])) g s.heap.objs.size (.tup [.int (i : Nat), x]) :=
      ⟨by show 2 ≤ sizeLine; decide, [.int i tk, x'], .cons ⟨_, rfl⟩ (.cons ru .nil), ⟨_, hT2, rfl, _, rfl⟩⟩
    have I1 : Inv X pins σ (upd H s.heap.objs.size (.tup [.int (i : Nat), x])) { s with heap := g, toks := tk + 1 } :=
      I.turnedNew (ch := [e, it]) (fun b ob hb q => (sb.2 b (fun z => hb (by simp [z]))).trans (hk b ob (fun z => hb (by simp [z])) (fun z => hb (by simp [z])) q)) hf (Nat.le_refl _) new
    refine ⟨.ref s.heap.objs.size, _, I1, rfl, ⟨_, x, rfl, I.hok.fresh (Nat.le_refl _), rfl, fun ys hy => by rw [I.tuple_inj hy hq]; exact hx⟩, ⟨⟨x', ?_⟩, hs'.1.at fun o q => (sb.2 it (Ne.symm hne)).trans q, hne⟩, fun b hb => ?_⟩
    · rw [show ((i + 1 : Nat) : Int) = (i : Int) + 1 by omega]
      exact he'
    · have hb' : b < s.heap.objs.size := by
        rcases (show b = e ∨ b = it by simpa using hb) with z | z <;> rw [z]
        · exact hel
        · exact hil
      rw [upd_ne (Nat.ne_of_lt hb')]
      exact (hf b hb).1
  done := by
    intro X hP hw hK hc i pins s σ H E I hf st hg
    subst hP hw hK
    obtain ⟨⟨old, he⟩, hit, hne⟩ := st
    obtain ⟨xs, hq, hx⟩ := hg
    obtain ⟨its, rv, p, hz⟩ := I.tuple hq
    have pt : s.heap.IsTuple a its.toArray := p
    obtain ⟨f0, f1, f2, f3, f4, f5⟩ := hf it (by simp)
    have hl := rv.length
    exact enumT_end (I.ok.hd hc) he hit pt (by simp; omega) fun h' eb => ⟨rfl, I.turned (t' := s.toks) (fun b o hb e => eb b o hb e) f0 f1 f3 f4 f5⟩
  self := fun A i s Q E st h => wpAny_pyIter_enum st.1.choose_spec h
def iEn (K : PySem.W.Frag) (ta : TA) : TI := fun σ H R => ta σ H fun vs H1 => ∃ a, vs = [.ref a] ∧ ((∃ xs, SqL K H1 a xs ∧ R (Ite K a) H1) ∨ ∃ xs, SqT K H1 a xs ∧ R (Itu K a) H1)
theorem pi_en {X : Cx} {e : Expr} {ta : TA} {p pos tpos : Pos} {elts : List Expr} {kk : Nat} (hg : Gl X "enumerate") (hm : X.mg "enumerate" = none) (ha : PA X [e] ta) (hs : starEach [e] X.env = [(false, eval e X.env)] := by rfl) :
    PI X (.Tuple elts kk tpos) (.Call (.Name "enumerate" p) [e] [] pos) (iEn X.K ta) := by
  refine ⟨fun pins s σ H R I h => PyProof.Rows.Call_ (ld_blt I hg hm PyProof.Rows.boot_enumerate (PyProof.Rows.callWith_type1 (thn (ha.run pos pins s σ H _ I h) fun us s1 ⟨vs, H1, I1, r1, a, ex, q1⟩ => ?_) hs rfl))⟩
  subst ex
  obtain _ | ⟨r, rr⟩ := r1
  cases rr
  cases r
  have fp : ∀ b ∈ [s1.heap.objs.size + 1, s1.heap.objs.size], FpOk X pins H1 b := fun b hb => by
    have hle : s1.heap.objs.size ≤ b := by
      rcases (show b = s1.heap.objs.size + 1 ∨ b = s1.heap.objs.size by simpa using hb) with z | z <;> omega
    exact I1.fpOk hle (I1.hok.fresh hle)
  rcases q1 with ⟨xs, hq, q⟩ | ⟨xs, hq, q⟩
  · obtain ⟨its, rv, pl, hz⟩ := I1.list hq
    refine enum1_call (begins_list a its.toArray) pl.isList fun g he hit hk => wpAny_pyIter_enum he ?_
    exact ⟨s1.heap.objs.size + 1, [s1.heap.objs.size + 1, s1.heap.objs.size], _, _, H1, rfl, I1.kept (t' := s1.toks) hk, turn_enum a (s1.heap.objs.size + 1) s1.heap.objs.size, ⟨⟨.none, he⟩, ⟨_, hit, rfl, rfl⟩, Nat.succ_ne_self _⟩, fp, q⟩
  · obtain ⟨its, rv, pl, hz⟩ := I1.tuple hq
    refine enum1_call (begins_tuple a its.toArray) (show s1.heap.IsTuple a its.toArray from pl) fun g he hit hk => wpAny_pyIter_enum he ?_
    exact ⟨s1.heap.objs.size + 1, [s1.heap.objs.size + 1, s1.heap.objs.size], _, _, H1, rfl, I1.kept (t' := s1.toks) hk, turn_enumT a (s1.heap.objs.size + 1) s1.heap.objs.size, ⟨⟨.none, he⟩, ⟨_, hit, rfl, rfl⟩, Nat.succ_ne_self _⟩, fp, q⟩
/-- what stands still, by its items -/
def stOf : MV → Option (List MV)
  | .tup xs => some xs
  | .ktp xs => some xs
  | .fls xs => some xs
  | .frz xs => some xs
  | _ => none
def enmOf : Nat → List MV → List MV
  | _, [] => []
  | i, x :: xs => .tup [.int (i : Int), x] :: enmOf (i + 1) xs
theorem enm_len : ∀ {i : Nat} {xs : List MV}, (enmOf i xs).length = xs.length
  | _, [] => rfl
  | i, x :: xs => by
    show (enmOf (i + 1) xs).length + 1 = xs.length + 1
    rw [enm_len]
theorem enm_get : ∀ {i k : Nat} {xs : List MV}, (enmOf i xs)[k]? = (xs[k]?).map fun x => .tup [.int ((i + k : Nat) : Int), x]
  | _, _, [] => by simp [enmOf]
  | i, 0, x :: xs => rfl
  | i, k + 1, x :: xs => by
    show (enmOf (i + 1) xs)[k]? = (xs[k]?).map _
    rw [enm_get, show i + 1 + k = i + (k + 1) by omega]
@[simp ↓] def enmF (xs : List MV) (h : MH) : Res MIter := match xs with
  | [x] => match stOf x with
    | some ys => ok (.st (enmOf 0 ys)) h
    | none => none
  | _ => none
@[simp ↓] def enmI (m : MM (List MV)) : MM MIter := fun s h => (m s h).bnd enmF
section
variable {X : Cx} {c : XC} {K : PySem.W.Frag} {W : Wd}
/-- a new pair of a turn -/
theorem enm_yld {h : MH} {T : Addr} {i : Nat} {x : MV} {v : V} (S : Sim K W h) (hT : W.H T = none) (r : RV K W x v) : ∃ W2 : Wd, W2.H = upd W.H T (.tup [.int (i : Nat), v]) ∧ Ext W W2 ∧ Sim K W2 h ∧ RV K W2 (.tup [.int ((0 + i : Nat) : Int), x]) (.ref T) := by
  have xp : Ext W (W.put T (.tup [.int (i : Nat), v])) := Ext.put S hT
  refine ⟨_, rfl, xp, Sim.put S hT, ?_⟩
  rw [Nat.zero_add]
  exact .tup (S.fresh hT) upd_same (.cons (.int _) (.cons (r.mono xp) .nil))
theorem jr_enL {x : MV} {u : V} {xs : List MV} {h : MH} (S : Sim K W h) (r : RV K W x u) (hx : x = .fls xs ∨ x = .frz xs) : ∃ a, u = .ref a ∧ (∃ vs, SqL K W.H a vs) ∧ JR K W (.st (enmOf 0 xs)) (Ite K a) := by
  have go : ∀ (W' : Wd), Ext W W' → ∀ h', Sim K W' h' → ∃ a vs, u = .ref a ∧ SqL K W'.H a vs ∧ RVs K W' xs vs := fun W' x' h' S' => by
    have r' := r.mono x'
    rcases hx with e | e <;> subst e <;> exact lst_sq (h := h') S' r' rfl
  obtain ⟨a, vs, e1, e2, t⟩ := go W (Ext.refl W) h S
  refine ⟨a, e1, ⟨vs, e2⟩, fun i W' h' x' S' => ?_⟩
  obtain ⟨b, ws, f1, f2, t'⟩ := go W' x' h' S'
  rw [e1] at f1
  cases f1
  refine ⟨fun y hy => ?_, fun hi => ⟨ws, f2, by rw [← t'.length, ← enm_len (i := 0)]; exact hi⟩⟩
  rw [enm_get] at hy
  cases hx0 : xs[i]? with
  | none =>
    rw [hx0] at hy
    cases hy
  | some x0 =>
    rw [hx0] at hy
    cases hy
    obtain ⟨v, hv, rv⟩ := t'.get hx0
    refine ⟨⟨ws, v, f2, hv⟩, fun v2 H2 ⟨T, z, e, hT, eh, y2⟩ => ?_⟩
    have q := y2 ws f2
    rw [hv] at q
    cases q
    subst e
    subst eh
    exact enm_yld S' hT rv
theorem jr_enT {x : MV} {u : V} {xs : List MV} {h : MH} (S : Sim K W h) (r : RV K W x u) (hx : x = .tup xs ∨ x = .ktp xs) : ∃ a, u = .ref a ∧ (∃ vs, SqT K W.H a vs) ∧ JR K W (.st (enmOf 0 xs)) (Itu K a) := by
  have sq : ∀ {W' : Wd}, RV K W' x u → ∃ p vs, u = .ref p ∧ SqT K W'.H p vs ∧ RVs K W' xs vs := fun r => by
    rcases hx with e | e <;> subst e
    · exact tup_sq r
    · exact ktp_sq r
  obtain ⟨a, vs, e1, e2, t⟩ := sq r
  refine ⟨a, e1, ⟨vs, e2⟩, fun i W' h' x' S' => ?_⟩
  obtain ⟨b, ws, f1, f2, t'⟩ := sq (r.mono x')
  rw [e1] at f1
  cases f1
  refine ⟨fun y hy => ?_, fun hi => ⟨ws, f2, by rw [← t'.length, ← enm_len (i := 0)]; exact hi⟩⟩
  rw [enm_get] at hy
  cases hx0 : xs[i]? with
  | none =>
    rw [hx0] at hy
    cases hy
  | some x0 =>
    rw [hx0] at hy
    cases hy
    obtain ⟨v, hv, rv⟩ := t'.get hx0
    refine ⟨⟨ws, v, f2, hv⟩, fun v2 H2 ⟨T, z, e, hT, eh, y2⟩ => ?_⟩
    have q := y2 ws f2
    rw [hv] at q
    cases q
    subst e
    subst eh
    exact enm_yld S' hT rv
theorem im_enm {e : Expr} {m : MM (List MV)} {p pos tpos : Pos} {elts : List Expr} {kk : Nat} (hg : Gl X "enumerate") (hm : X.mg "enumerate" = none) (ha : AM X c [e] m) (hs : starEach [e] X.env = [(false, eval e X.env)] := by rfl) :
    IM X c (.Tuple elts kk tpos) (.Call (.Name "enumerate" p) [e] [] pos) (enmI m) := pi_wk (pi_en hg hm ha hs) fun σ H R ⟨W, h, s, e, S, rs, p⟩ => by
  subst e
  refine ⟨W, h, s, rfl, S, rs, p.bnd fun W1 h1 xs x1 S1 p1 vs r1 => ?_⟩
  match xs, vs, r1, p1 with
  | [x], [v], .cons r .nil, p1 =>
    have p2 : Pst X.K c (CI X.K R) W1 (match stOf x with | some ys => ok (.st (enmOf 0 ys)) h1 | none => none) := p1
    cases x with
    | tup ys =>
      obtain ⟨a, e1, ⟨vs, e2⟩, j⟩ := jr_enT S1 r (.inl rfl)
      exact ⟨a, by rw [e1], .inr ⟨vs, e2, Pst.now p2 S1 _ j⟩⟩
    | ktp ys =>
      obtain ⟨a, e1, ⟨vs, e2⟩, j⟩ := jr_enT S1 r (.inr rfl)
      exact ⟨a, by rw [e1], .inr ⟨vs, e2, Pst.now p2 S1 _ j⟩⟩
    | fls ys =>
      obtain ⟨a, e1, ⟨vs, e2⟩, j⟩ := jr_enL S1 r (.inl rfl)
      exact ⟨a, by rw [e1], .inl ⟨vs, e2, Pst.now p2 S1 _ j⟩⟩
    | frz ys =>
      obtain ⟨a, e1, ⟨vs, e2⟩, j⟩ := jr_enL S1 r (.inr rfl)
      exact ⟨a, by rw [e1], .inl ⟨vs, e2, Pst.now p2 S1 _ j⟩⟩
    | _ => exact p2.elim
  | [], _, _, p1 => exact p1.elim
  | _ :: _ :: _, _, _, p1 => exact p1.elim
end
end Mi
set_option maxHeartbeats 2000000
/-! Mi: dicts whose keys are whole numbers or texts. -/
namespace Mi
open PySem L2
def keyOf : MV → Option Key
  | .int i => some (.inl i)
  | .str x => some (.inr x)
  | _ => none
def valM (kvs : List (Key × MV)) (k : Key) : Option MV := (kvs.find? fun p => decide (p.1 = k)).map (·.2)
def putM (kvs : List (Key × MV)) (k : Key) (v : MV) : List (Key × MV) :=
  if (kvs.any fun p => decide (p.1 = k)) = true then kvs.map (fun p => if p.1 = k then (p.1, v) else p) else kvs ++ [(k, v)]
section
variable {K : PySem.W.Frag} {W : Wd}
theorem key_V {x : MV} {v : V} {k : Key} (r : RV K W x v) (e : keyOf x = some k) : v = kV k := by
  cases x <;> first | (cases e; done) | skip
  · cases e
    rw [rv_int r]
    rfl
  · cases e
    cases r
    rfl
theorem RKV.length : ∀ {ms : List (Key × MV)} {vs : List (Key × V)}, RKV K W ms vs → ms.length = vs.length
  | _, _, .nil => rfl
  | _, _, .cons _ t => by rw [List.length_cons, List.length_cons, RKV.length t]
theorem RKV.val (k : Key) : ∀ {ms : List (Key × MV)} {vs : List (Key × V)}, RKV K W ms vs → (∀ x, valM ms k = some x → ∃ v, valV vs k = some v ∧ RV K W x v) ∧ (valM ms k).isSome = (valV vs k).isSome
  | _, _, .nil => ⟨fun x e => (nomatch e), rfl⟩
  | _, _, .cons (k := j) (x := y) (xs := ms) (vs := vs) r t => by
    obtain ⟨a, b⟩ := RKV.val k t
    by_cases h : j = k
    · have e : valM ((j, y) :: ms) k = some y := by simp [valM, List.find?_cons, h]
      rw [e, valV_pos h]
      exact ⟨fun x z => (by cases z; exact ⟨_, rfl, r⟩), rfl⟩
    · have e : valM ((j, y) :: ms) k = valM ms k := by simp [valM, List.find?_cons, h]
      rw [e, valV_neg h]
      exact ⟨a, b⟩
theorem RKV.any (k : Key) : ∀ {ms : List (Key × MV)} {vs : List (Key × V)}, RKV K W ms vs → (ms.any fun p => decide (p.1 = k)) = vs.any fun p => decide (p.1 = k)
  | _, _, .nil => rfl
  | _, _, .cons r t => by rw [List.any_cons, List.any_cons, RKV.any k t]
theorem RKV.app {k : Key} {x : MV} {v : V} (r : RV K W x v) : ∀ {ms : List (Key × MV)} {vs : List (Key × V)}, RKV K W ms vs → RKV K W (ms ++ [(k, x)]) (vs ++ [(k, v)])
  | _, _, .nil => .cons r .nil
  | _, _, .cons q t => .cons q (RKV.app r t)
theorem RKV.repl {k : Key} {x : MV} {v : V} (r : RV K W x v) : ∀ {ms : List (Key × MV)} {vs : List (Key × V)}, RKV K W ms vs → RKV K W (ms.map fun p => if p.1 = k then (p.1, x) else p) (vs.map fun p => if p.1 = k then (p.1, v) else p)
  | _, _, .nil => .nil
  | _, _, .cons (k := j) q t => by
    rw [List.map_cons, List.map_cons]
    by_cases h : j = k
    · rw [if_pos h, if_pos h]
      exact .cons r (RKV.repl r t)
    · rw [if_neg h, if_neg h]
      exact .cons q (RKV.repl r t)
theorem RKV.put {k : Key} {x : MV} {v : V} {ms : List (Key × MV)} {vs : List (Key × V)} (t : RKV K W ms vs) (r : RV K W x v) : RKV K W (putM ms k x) (putK vs k v) := by
  unfold putM putK
  rw [t.any k]
  by_cases h : (vs.any fun p => decide (p.1 = k)) = true
  · rw [if_pos h, if_pos h]
    exact t.repl r
  · rw [if_neg h, if_neg h]
    exact t.app r
theorem Sim.dictAt {h : MH} (S : Sim K W h) {l : Nat} {kvs : List (Key × MV)} {v : V} (e : h[l]? = some (.dK kvs)) (r : RV K W (.ref l) v) : ∃ a kws, v = .ref a ∧ W.f l = some a ∧ W.H a = some (.dK kws) ∧ RKV K W kvs kws := by
  obtain ⟨a, e1, e2, kws, e3, t⟩ := S.at e (by intro z; cases z) r
  exact ⟨a, kws, e1, e2, e3, t⟩
end
/-! ### d[k], k in d -/
@[simp ↓] def dgetF (x y : MV) (h : MH) : Res MV := match x with
  | .ref l => match h[l]?, keyOf y with
    | some (.dK kvs), some k => match valM kvs k with
      | some v => ok v h
      | none => none
    | _, _ => none
  | _ => none
@[simp ↓] def dinF (y x : MV) (h : MH) : Res MV := match x with
  | .ref l => match h[l]?, keyOf y with
    | some (.dK kvs), some k => ok (.bl (valM kvs k).isSome) h
    | _, _ => none
  | _ => none
@[simp ↓] def dninF (y x : MV) (h : MH) : Res MV := match x with
  | .ref l => match h[l]?, keyOf y with
    | some (.dK kvs), some k => ok (.bl (!(valM kvs k).isSome)) h
    | _, _ => none
  | _ => none
def rDIn : R2 := fun y x H Q => ∃ a o, x = .ref a ∧ DGet H a y o ∧ Q (.bl o.isSome) H
def rDNin : R2 := fun y x H Q => ∃ a o, x = .ref a ∧ DGet H a y o ∧ Q (.bl (!o.isSome)) H
section
variable {X : Cx} {c : XC} {K : PySem.W.Frag} {W : Wd} {o i : Expr} {pos : Pos}
theorem op_din (hu : X.A.units + 64 < cLine) : OpR X (compareOp .In) rDIn := fun pins s σ H y x u v Q I ry rx ⟨a, ov, e, g, q⟩ => by
  subst e
  obtain rfl : v = Value.ref a := rx
  exact d_in (by omega) I g ry fun s3 I3 => ⟨.bl ov.isSome, H, I3, rfl, q⟩
theorem op_dnin (hu : X.A.units + 64 < cLine) : OpR X (compareOp .NotIn) rDNin := fun pins s σ H y x u v Q I ry rx ⟨a, ov, e, g, q⟩ => by
  subst e
  obtain rfl : v = Value.ref a := rx
  exact d_notIn (by omega) I g ry fun s3 I3 => ⟨.bl (!ov.isSome), H, I3, rfl, q⟩
theorem dict_key {h : MH} {l : Nat} {y : MV} {u v : V} {kvs : List (Key × MV)} {k : Key} (S : Sim K W h) (r : RV K W (.ref l) v) (ry : RV K W y u) (e : h[l]? = some (.dK kvs)) (ek : keyOf y = some k) :
    ∃ a kws, v = .ref a ∧ DGet W.H a u (valV kws k) ∧ RKV K W kvs kws := by
  obtain ⟨a, kws, e1, e2, e3, t⟩ := S.dictAt e r
  refine ⟨a, kws, e1, ?_, t⟩
  rw [key_V ry ek]
  exact DGet.k e3
theorem opm_din : OpM K c rDIn dinF := fun W h y x u v Q S ry rx p => by
  unfold dinF at p
  cases x <;> first | exact p.elim | skip
  rename_i l
  dsimp only at p
  cases hl : h[l]? with
  | none =>
    rw [hl] at p
    exact p.elim
  | some ob =>
    cases hk : keyOf y with
    | none =>
      rw [hl, hk] at p
      cases ob <;> exact p.elim
    | some k =>
      rw [hl, hk] at p
      cases ob <;> first | exact p.elim | skip
      rename_i kvs
      obtain ⟨a, kws, e1, g, t⟩ := dict_key S rx ry hl hk
      exact ⟨a, _, e1, g, by rw [← (t.val k).2]; exact Pst.now p S _ (.bl _)⟩
theorem opm_dnin : OpM K c rDNin dninF := fun W h y x u v Q S ry rx p => by
  unfold dninF at p
  cases x <;> first | exact p.elim | skip
  rename_i l
  dsimp only at p
  cases hl : h[l]? with
  | none =>
    rw [hl] at p
    exact p.elim
  | some ob =>
    cases hk : keyOf y with
    | none =>
      rw [hl, hk] at p
      cases ob <;> exact p.elim
    | some k =>
      rw [hl, hk] at p
      cases ob <;> first | exact p.elim | skip
      rename_i kvs
      obtain ⟨a, kws, e1, g, t⟩ := dict_key S rx ry hl hk
      exact ⟨a, _, e1, g, by rw [← (t.val k).2]; exact Pst.now p S _ (.bl _)⟩
theorem em_dget {mo mi : ME} (hu : X.A.units + 64 < cLine) (ho : EM X c o mo) (hi : EM X c i mi) (hs : NoSl i) : EM X c (.Subscript o i pos) (opM dgetF mo mi) := pe_wk (pe_dget (by omega) ho hi hs) fun σ H Q ⟨W, h, s, e, S, rs, p⟩ => by
  subst e
  refine ⟨W, h, s, rfl, S, rs, p.bnd fun W1 h1 x x1 S1 p1 v r1 => ?_⟩
  refine ⟨W1, h1, s, rfl, S1, rs.mono x1, p1.bnd fun W2 h2 y x2 S2 p2 u r2 => ?_⟩
  unfold dgetF at p2
  cases x <;> first | exact p2.elim | skip
  rename_i l
  dsimp only at p2
  cases hl : h2[l]? with
  | none =>
    rw [hl] at p2
    exact p2.elim
  | some ob =>
    cases hk : keyOf y with
    | none =>
      rw [hl, hk] at p2
      cases ob <;> exact p2.elim
    | some k =>
      rw [hl, hk] at p2
      cases ob <;> first | exact p2.elim | skip
      rename_i kvs
      obtain ⟨a, kws, e1, g, t⟩ := dict_key S2 (r1.mono x2) r2 hl hk
      dsimp only at p2
      cases hv : valM kvs k with
      | none =>
        rw [hv] at p2
        exact p2.elim
      | some z =>
        rw [hv] at p2
        obtain ⟨w, e2, rw'⟩ := (t.val k).1 z hv
        rw [e2] at g
        exact ⟨a, w, e1, g, Pst.now p2 S2 _ rw'⟩
end
/-! ### {k: v for ..} -/
def dcS (g : MV → MS → Option MS) (cd : MM Bool) (ke ve : ME) (s0 : MS) (l : Nat) : List MV → MH → Res MV
  | [], h => ok (.ref l) h
  | x :: xs, h => match g x s0 with
    | none => none
    | some s1 => (cd s1 h).bnd fun b h1 => if b = true then (ke s1 h1).bnd fun y h2 => (ve s1 h2).bnd fun z h3 => match keyOf y, h3[l]? with
        | some k, some (.dK kvs) => if kvs.length < lim then dcS g cd ke ve s0 l xs (h3.set l (.dK (putM kvs k z))) else none
        | _, _ => none
      else dcS g cd ke ve s0 l xs h1
@[simp ↓] def dcM (mi : MM MIter) (vs : List Nat) (g : MV → MS → Option MS) (cd : MM Bool) (ke ve : ME) : ME := fun s h => (mi s h).bnd fun it h1 => match it with
  | .st its => dcS g cd ke ve (wipeM s vs) h1.length its (h1 ++ [.dK []])
  | .dyn _ _ => none
section
variable {X : Cx} {c : XC}
theorem dc_of {K : PySem.W.Frag} {vs : List Nat} {mi : MM MIter} {t : TG} {g : MV → MS → Option MS} {cd : MM Bool} {ke ve : ME} (ho : TgC K t g vs) {σ : St} {H : Hp} {Q : VK} (q : tM K c (dcM mi vs g cd ke ve) σ H Q) : tDc (tMI K c mi) t (tMB K c cd) (tM K c ke) (tM K c ve) vs σ H Q := by
  obtain ⟨W, h, s, e, S, rs, p⟩ := q
  subst e
  refine ⟨W, h, s, rfl, S, rs, p.bnd fun W1 h1 it x1 S1 p1 J jr D hD => ?_⟩
  have rs1 : RS K W1 (wipeM s vs) (L2.wipe σ vs) := (rs.mono x1).wipe _
  cases it with
  | dyn l k => exact p1.elim
  | st its =>
    have xa : Ext W1 (W1.add D (.dK [])) := Ext.add S1 hD
    have Sa : Sim K (W1.add D (.dK [])) (h1 ++ [.dK []]) := S1.add hD ⟨[], upd_same, .nil⟩
    have fl : (W1.add D (.dK [])).f h1.length = some D := by
      show (if h1.length = W1.n then some D else W1.f h1.length) = some D
      rw [if_pos S1.n.symm]
    have ln : h1.length < (W1.add D (.dK [])).n := by
      show h1.length < W1.n + 1
      rw [S1.n]
      exact Nat.lt_succ_self _
    have isD : ∀ W' : Wd, Ext (W1.add D (.dK [])) W' → ∀ b, W'.f h1.length = some b → b = D := fun W' x' b hb => by
      rcases x'.agree _ ln with q | q
      · rw [q, fl] at hb
        exact (Option.some.inj hb).symm
      · rw [q] at hb
        cases hb
    refine ⟨fun i n H' => n = its.length - i ∧ i ≤ its.length ∧ ∃ W' h', W'.H = H' ∧ Ext (W1.add D (.dK [])) W' ∧ Sim K W' h' ∧ Pst K c (CV K Q) W1 (dcS g cd ke ve (wipeM s vs) h1.length (its.drop i) h'),
      ⟨its.length, rfl, Nat.zero_le _, _, _, rfl, Ext.refl _, Sa, p1⟩, ?_⟩
    rintro i n H' ⟨hn, hle, W', h', rfl, x', S', p'⟩
    obtain ⟨j1, j2⟩ := jr i W' h' (xa.trans x') S'
    by_cases hi : i < its.length
    · obtain ⟨jg, jy⟩ := j1 its[i] (List.getElem?_eq_getElem hi)
      rw [List.drop_eq_getElem_cons hi] at p'
      refine .inr ⟨jg, fun H2 => ∃ W2 h2, W2.H = H2 ∧ Ext (W1.add D (.dK [])) W2 ∧ Sim K W2 h2 ∧ Pst K c (CV K Q) W1 (dcS g cd ke ve (wipeM s vs) h1.length (its.drop (i + 1)) h2),
        fun H2 w => ⟨its.length - (i + 1), by omega, rfl, by omega, w⟩, fun v H2 y => ?_⟩
      obtain ⟨W2, rfl, x2, S2, r2⟩ := jy v H2 y
      unfold dcS at p'
      cases hg : g its[i] (wipeM s vs) with
      | none =>
        rw [hg] at p'
        exact p'.elim
      | some s1 =>
        rw [hg] at p'
        have x02 := (xa.trans x').trans x2
        refine ho W2 (wipeM s vs) s1 _ its[i] v _ (rs1.mono x02) r2 hg fun σ2 rs2 hw => ⟨hw.trans wipe_wipe, W2, h', s1, rfl, S2, rs2, ?_⟩
        refine Pst.bnd2 p' x02 fun W3 h3 b x3 S3 p3 => ?_
        cases b with
        | false => exact ⟨W3, h3, rfl, (x'.trans x2).trans x3, S3, p3⟩
        | true =>
          refine iteT (B := ∃ W2 h2, W2.H = W3.H ∧ Ext (W1.add D (.dK [])) W2 ∧ Sim K W2 h2 ∧ Pst K c (CV K Q) W1 (dcS g cd ke ve (wipeM s vs) h1.length (its.drop (i + 1)) h2)) ⟨W3, h3, s1, rfl, S3, rs2.mono x3, ?_⟩
          rw [if_pos rfl] at p3
          refine Pst.bnd2 p3 (x02.trans x3) fun W4 h4 ky x4 S4 p4 u r4 => ?_
          refine ⟨W4, h4, s1, rfl, S4, (rs2.mono x3).mono x4, ?_⟩
          refine Pst.bnd2 p4 ((x02.trans x3).trans x4) fun W5 h5 z x5 S5 p5 w r5 => ?_
          cases hk : keyOf ky with
          | none =>
            rw [hk] at p5
            exact p5.elim
          | some k =>
            rw [hk] at p5
            cases hl : h5[h1.length]? with
            | none =>
              rw [hl] at p5
              exact p5.elim
            | some ob =>
              rw [hl] at p5
              cases ob <;> first | exact p5.elim | skip
              rename_i kvs
              have x15 : Ext (W1.add D (.dK [])) W5 := (((x'.trans x2).trans x3).trans x4).trans x5
              obtain ⟨a, ea⟩ := S5.live _ _ hl (by intro z; cases z)
              obtain rfl : a = D := isD W5 x15 a ea
              obtain ⟨o2, e2, ro⟩ := S5.obj _ a ea
              rw [hl] at e2
              cases e2
              obtain ⟨kws, e3, tt⟩ := ro
              dsimp only at p5
              by_cases hlm : kvs.length < lim
              · rw [if_pos hlm] at p5
                have xw : Ext W5 (W5.wr a (.dK (putK kws k w))) := Ext.wr S5 ea
                refine ⟨kws, k, key_V r4 hk |>.trans rfl, e3, Nat.lt_of_lt_of_le (by rw [← tt.length]; exact hlm) (lim_line (Nat.le_refl _)), W5.wr a (.dK (putK kws k w)), _, rfl, x15.trans xw, S5.wr (m := .dK (putM kvs k z)) ea ⟨_, upd_same, (tt.put r5).mono xw⟩, p5⟩
              · rw [if_neg hlm] at p5
                exact p5.elim
    · have e0 : its.drop i = [] := List.drop_eq_nil_of_le (by omega)
      rw [e0] at p'
      refine .inl ⟨j2 (by omega), p' W' (xa.trans x') S' (.ref D) (.ref (Nat.lt_of_lt_of_le ln x'.le) (isD W' x'))⟩
theorem em_dc {kx vx tg iter : Expr} {ifs : List Expr} {scope : Scope} {own : List (Str × Nat)} {pos : Pos} {mi : MM MIter} {t : TG} {g : MV → MS → Option MS} {cd : MM Bool} {ke ve : ME} (ho : TgC X.K t g (own.map (·.2)))
    (h : PE X (.DictComp kx vx [⟨tg, iter, ifs, 0⟩] scope pos) (tDc (tMI X.K c mi) t (tMB X.K c cd) (tM X.K c ke) (tM X.K c ve) (own.map (·.2)))) : EM X c (.DictComp kx vx [⟨tg, iter, ifs, 0⟩] scope pos) (dcM mi (own.map (·.2)) g cd ke ve) := pe_wk h fun _ _ _ q => dc_of ho q
end
end Mi
set_option maxHeartbeats 2000000
/-! Mi: < of tuples of whole numbers. -/
namespace Mi
open PySem L2
@[simp ↓] def ltAF (x y : MV) (h : MH) : Res MV := match x, y with
  | .int i, .int j => ok (.bl (decide (i < j))) h
  | .tup xs, .tup ys => match intsOf xs, intsOf ys with
    | some a, some b => ok (.bl (HT.lexLt a b)) h
    | _, _ => none
  | _, _ => none
def rLtA (K : PySem.W.Frag) : R2 := fun x y H Q => rI0 (fun i j => .bl (decide (i < j))) x y H Q ∨ rLtT K x y H Q
section
variable {X : Cx} {c : XC} {K : PySem.W.Frag}
theorem op_ltA (hu : X.A.units + 64 < cLine) : OpR X (compareOp .Lt) (rLtA X.K) := OpR.or op_lt (op_ltT (by omega))
theorem opm_ltA : OpM K c (rLtA K) ltAF := fun W h x y u v Q S r1 r2 p => by
  cases x <;> first | exact p.elim | skip
  · rename_i i
    cases y <;> first | exact p.elim | skip
    rename_i j
    exact .inl (opm_lt W h (.int i) (.int j) u v Q S r1 r2 p)
  · rename_i xs
    cases y <;> first | exact p.elim | skip
    rename_i ys
    have p' : Pst K c (CV K Q) W (match intsOf xs, intsOf ys with | some a, some b => ok (.bl (HT.lexLt a b)) h | _, _ => none) := p
    cases hx : intsOf xs with
    | none =>
      rw [hx] at p'
      exact p'.elim
    | some ns =>
      cases hy : intsOf ys with
      | none =>
        rw [hx, hy] at p'
        exact p'.elim
      | some ms =>
        rw [hx, hy] at p'
        obtain ⟨a, vs, e1, s1, t1⟩ := tup_sq r1
        obtain ⟨b, ws, e2, s2, t2⟩ := tup_sq r2
        have f1 := (ints_V t1 hx).1
        have f2 := (ints_V t2 hy).1
        subst f1
        subst f2
        exact .inr ⟨a, b, ns, ms, e1, e2, s1, s2, Pst.now p' S _ (.bl _)⟩
end
end Mi
set_option maxHeartbeats 2000000
/-! Mi: two fors in a comprehension (its list is a place of the mirror's heap), bit_length. -/
namespace Mi
open PySem L2
/-- the inner for: items go into place l -/
def liS (g : MV → MS → Option MS) (cd : MM Bool) (el : ME) (s0 : MS) (l : Nat) (k : MH → Res MV) : List MV → MH → Res MV
  | [], h => k h
  | x :: xs, h => match g x s0 with
    | none => none
    | some s1 => (cd s1 h).bnd fun b h1 => if b = true then (el s1 h1).bnd fun y h2 => match h2[l]? with
        | some (.lst zs) => if zs.length < lim then liS g cd el s0 l k xs (h2.set l (.lst (zs ++ [y]))) else none
        | _ => none
      else liS g cd el s0 l k xs h1
def lc2S (g : MV → MS → Option MS) (cd : MM Bool) (mi1 : MM MIter) (vs1 : List Nat) (g1 : MV → MS → Option MS) (cd1 : MM Bool) (el : ME) (s0 : MS) (l : Nat) : List MV → MH → Res MV
  | [], h => ok (.ref l) h
  | x :: xs, h => match g x s0 with
    | none => none
    | some s1 => (cd s1 h).bnd fun b h1 => if b = true then (mi1 s1 h1).bnd fun it h2 => (match it with
      | .st its => liS g1 cd1 el (wipeM s1 vs1) l (lc2S g cd mi1 vs1 g1 cd1 el s0 l xs) its h2
      | .dyn _ _ => none) else lc2S g cd mi1 vs1 g1 cd1 el s0 l xs h1
@[simp ↓] def lc2M (mi : MM MIter) (vs : List Nat) (g : MV → MS → Option MS) (cd : MM Bool) (mi1 : MM MIter) (vs1 : List Nat) (g1 : MV → MS → Option MS) (cd1 : MM Bool) (el : ME) : ME := fun s h => (mi s h).bnd fun it h1 => match it with
  | .st its => lc2S g cd mi1 vs1 g1 cd1 el (wipeM s vs) h1.length its (h1 ++ [.lst []])
  | .dyn _ _ => none
section
variable {X : Cx} {c : XC}
theorem lc2_of {K : PySem.W.Frag} {vs vs1 : List Nat} {mi mi1 : MM MIter} {t t1 : TG} {g g1 : MV → MS → Option MS} {cd cd1 : MM Bool} {el : ME} (ho : TgC K t g vs) (ho1 : TgC K t1 g1 vs1) {σ : St} {H : Hp} {Q : VK} (q : tM K c (lc2M mi vs g cd mi1 vs1 g1 cd1 el) σ H Q) :
    tLc2 (tMI K c mi) t (tMB K c cd) (tMI K c mi1) t1 (tMB K c cd1) (tM K c el) vs vs1 σ H Q := by
  obtain ⟨W, h, s, e, S, rs, p⟩ := q
  subst e
  refine ⟨W, h, s, rfl, S, rs, p.bnd fun W1 h1 it x1 S1 p1 J jr D hD => ?_⟩
  have rs1 : RS K W1 (wipeM s vs) (L2.wipe σ vs) := (rs.mono x1).wipe _
  cases it with
  | dyn l k => exact p1.elim
  | st its =>
    have xa : Ext W1 (W1.add D (.lst [])) := Ext.add S1 hD
    have Sa : Sim K (W1.add D (.lst [])) (h1 ++ [.lst []]) := S1.add hD ⟨[], upd_same, .nil⟩
    have fl : (W1.add D (.lst [])).f h1.length = some D := by
      show (if h1.length = W1.n then some D else W1.f h1.length) = some D
      rw [if_pos S1.n.symm]
    have ln : h1.length < (W1.add D (.lst [])).n := by
      show h1.length < W1.n + 1
      rw [S1.n]
      exact Nat.lt_succ_self _
    have isD : ∀ W' : Wd, Ext (W1.add D (.lst [])) W' → ∀ b, W'.f h1.length = some b → b = D := fun W' x' b hb => by
      rcases x'.agree _ ln with q | q
      · rw [q, fl] at hb
        exact (Option.some.inj hb).symm
      · rw [q] at hb
        cases hb
    refine ⟨fun i n H' => n = its.length - i ∧ i ≤ its.length ∧ ∃ W' h', W'.H = H' ∧ Ext (W1.add D (.lst [])) W' ∧ Sim K W' h' ∧ Pst K c (CV K Q) W1 (lc2S g cd mi1 vs1 g1 cd1 el (wipeM s vs) h1.length (its.drop i) h'),
      ⟨its.length, rfl, Nat.zero_le _, _, _, rfl, Ext.refl _, Sa, p1⟩, ?_⟩
    rintro i n H' ⟨hn, hle, W', h', rfl, x', S', p'⟩
    obtain ⟨j1, j2⟩ := jr i W' h' (xa.trans x') S'
    by_cases hi : i < its.length
    · obtain ⟨jg, jy⟩ := j1 its[i] (List.getElem?_eq_getElem hi)
      rw [List.drop_eq_getElem_cons hi] at p'
      refine .inr ⟨jg, fun H2 => ∃ W2 h2, W2.H = H2 ∧ Ext (W1.add D (.lst [])) W2 ∧ Sim K W2 h2 ∧ Pst K c (CV K Q) W1 (lc2S g cd mi1 vs1 g1 cd1 el (wipeM s vs) h1.length (its.drop (i + 1)) h2),
        fun H2 w => ⟨its.length - (i + 1), by omega, rfl, by omega, w⟩, fun v H2 y => ?_⟩
      obtain ⟨W2, rfl, x2, S2, r2⟩ := jy v H2 y
      unfold lc2S at p'
      cases hg : g its[i] (wipeM s vs) with
      | none =>
        rw [hg] at p'
        exact p'.elim
      | some s1 =>
        rw [hg] at p'
        have x02 := (xa.trans x').trans x2
        refine ho W2 (wipeM s vs) s1 _ its[i] v _ (rs1.mono x02) r2 hg fun σ2 rs2 hw => ⟨hw.trans wipe_wipe, W2, h', s1, rfl, S2, rs2, ?_⟩
        refine Pst.bnd2 p' x02 fun W3 h3 b x3 S3 p3 => ?_
        cases b with
        | false => exact ⟨W3, h3, rfl, (x'.trans x2).trans x3, S3, p3⟩
        | true =>
          refine iteT (B := ∃ W2 h2, W2.H = W3.H ∧ Ext (W1.add D (.lst [])) W2 ∧ Sim K W2 h2 ∧ Pst K c (CV K Q) W1 (lc2S g cd mi1 vs1 g1 cd1 el (wipeM s vs) h1.length (its.drop (i + 1)) h2)) ⟨W3, h3, s1, rfl, S3, rs2.mono x3, ?_⟩
          rw [if_pos rfl] at p3
          have x03 := x02.trans x3
          refine Pst.bnd2 p3 x03 fun W4 h4 it1 x4 S4 p4 J1 jr1 => ?_
          have x14 := ((x'.trans x2).trans x3).trans x4
          cases it1 with
          | dyn l k => exact p4.elim
          | st its1 =>
            have rs4 : RS K W4 (wipeM s1 vs1) (L2.wipe σ2 vs1) := ((rs2.mono x3).mono x4).wipe _
            refine ⟨fun j k H' => k = its1.length - j ∧ j ≤ its1.length ∧ ∃ W5 h5, W5.H = H' ∧ Ext W4 W5 ∧ Sim K W5 h5 ∧ Pst K c (CV K Q) W1 (liS g1 cd1 el (wipeM s1 vs1) h1.length (lc2S g cd mi1 vs1 g1 cd1 el (wipeM s vs) h1.length (its.drop (i + 1))) (its1.drop j) h5),
              ⟨its1.length, rfl, Nat.zero_le _, W4, h4, rfl, Ext.refl _, S4, p4⟩, ?_⟩
            rintro j k H' ⟨hk, hjle, W5, h5, rfl, x5, S5, p5⟩
            obtain ⟨k1, k2⟩ := jr1 j W5 h5 x5 S5
            by_cases hj : j < its1.length
            · obtain ⟨kg, ky⟩ := k1 its1[j] (List.getElem?_eq_getElem hj)
              rw [List.drop_eq_getElem_cons hj] at p5
              unfold liS at p5
              refine .inr ⟨kg, fun H6 => ∃ W6 h6, W6.H = H6 ∧ Ext W4 W6 ∧ Sim K W6 h6 ∧ Pst K c (CV K Q) W1 (liS g1 cd1 el (wipeM s1 vs1) h1.length (lc2S g cd mi1 vs1 g1 cd1 el (wipeM s vs) h1.length (its.drop (i + 1))) (its1.drop (j + 1)) h6),
                fun H6 w => ⟨its1.length - (j + 1), by omega, rfl, by omega, w⟩, fun v1 H6 y1 => ?_⟩
              obtain ⟨W6, rfl, x6, S6, r6⟩ := ky v1 H6 y1
              have x46 := x5.trans x6
              have x06 := (x03.trans x4).trans x46
              cases hg1 : g1 its1[j] (wipeM s1 vs1) with
              | none =>
                rw [hg1] at p5
                exact p5.elim
              | some s2 =>
                rw [hg1] at p5
                refine ho1 W6 _ s2 _ _ v1 _ (rs4.mono x46) r6 hg1 fun σ3 rs3 hw1 => ⟨hw1.trans wipe_wipe, W6, h5, s2, rfl, S6, rs3, ?_⟩
                refine Pst.bnd2 p5 x06 fun W7 h7 b x7 S7 p7 => ?_
                cases b with
                | false => exact ⟨W7, h7, rfl, x46.trans x7, S7, p7⟩
                | true =>
                  refine iteT (B := ∃ W6 h6, W6.H = W7.H ∧ Ext W4 W6 ∧ Sim K W6 h6 ∧ Pst K c (CV K Q) W1 (liS g1 cd1 el (wipeM s1 vs1) h1.length (lc2S g cd mi1 vs1 g1 cd1 el (wipeM s vs) h1.length (its.drop (i + 1))) (its1.drop (j + 1)) h6)) ⟨W7, h7, s2, rfl, S7, rs3.mono x7, ?_⟩
                  rw [if_pos rfl] at p7
                  refine Pst.bnd2 p7 (x06.trans x7) fun W8 h8 y x8 S8 p8 u r8 => ?_
                  cases hl : h8[h1.length]? with
                  | none =>
                    rw [hl] at p8
                    exact p8.elim
                  | some ob =>
                    rw [hl] at p8
                    cases ob <;> first | exact p8.elim | skip
                    rename_i zs
                    have x48 := (x46.trans x7).trans x8
                    have x18 := x14.trans x48
                    obtain ⟨a, ea⟩ := S8.live _ _ hl (by intro z; cases z)
                    obtain rfl : a = D := isD W8 x18 a ea
                    obtain ⟨o2, e2, ro⟩ := S8.obj _ a ea
                    rw [hl] at e2
                    cases e2
                    obtain ⟨ws, e3, tt⟩ := ro
                    dsimp only at p8
                    by_cases hlm : zs.length < lim
                    · rw [if_pos hlm] at p8
                      have xw : Ext W8 (W8.wr a (.lst (ws ++ [u]))) := Ext.wr S8 ea
                      refine ⟨ws, e3, Nat.lt_of_lt_of_le (by rw [← tt.length]; exact hlm) (lim_line (Nat.le_refl _)), W8.wr a (.lst (ws ++ [u])), _, rfl, x48.trans xw, S8.wr (m := .lst (zs ++ [y])) ea ⟨_, upd_same, (tt.append (.one r8)).mono xw⟩, p8⟩
                    · rw [if_neg hlm] at p8
                      exact p8.elim
            · have e0 : its1.drop j = [] := List.drop_eq_nil_of_le (by omega)
              rw [e0] at p5
              exact .inl ⟨k2 (by omega), W5, h5, rfl, x14.trans x5, S5, p5⟩
    · have e0 : its.drop i = [] := List.drop_eq_nil_of_le (by omega)
      rw [e0] at p'
      refine .inl ⟨j2 (by omega), p' W' (xa.trans x') S' (.ref D) (.ref (Nat.lt_of_lt_of_le ln x'.le) (isD W' x'))⟩
theorem em_lc2 {elt tg iter tg1 iter1 : Expr} {ifs ifs1 : List Expr} {scope : Scope} {own : List (Str × Nat)} {vs1 : List Nat} {pos : Pos} {mi mi1 : MM MIter} {t t1 : TG} {g g1 : MV → MS → Option MS} {cd cd1 : MM Bool} {el : ME} (ho : TgC X.K t g (own.map (·.2))) (ho1 : TgC X.K t1 g1 vs1)
    (h : PE X (.ListComp elt [⟨tg, iter, ifs, 0⟩, ⟨tg1, iter1, ifs1, 0⟩] scope pos) (tLc2 (tMI X.K c mi) t (tMB X.K c cd) (tMI X.K c mi1) t1 (tMB X.K c cd1) (tM X.K c el) (own.map (·.2)) vs1)) : EM X c (.ListComp elt [⟨tg, iter, ifs, 0⟩, ⟨tg1, iter1, ifs1, 0⟩] scope pos) (lc2M mi (own.map (·.2)) g cd mi1 vs1 g1 cd1 el) := pe_wk h fun _ _ _ q => lc2_of ho ho1 q
theorem s_lc2 {elt tg iter tg1 iter1 : Expr} {ifs ifs1 : List Expr} {scope : Scope} {own : List (Str × Nat)} {vs1 : List Nat} {pos spos py : Pos} {y : Str} {i : Nat} {mi mi1 : MM MIter} {t t1 : TG} {g g1 : MV → MS → Option MS} {cd cd1 : MM Bool} {el : ME} (ho : TgC X.K t g (own.map (·.2))) (ho1 : TgC X.K t1 g1 vs1)
    (h : PS X (.Assign [.Name y py] (.ListComp elt [⟨tg, iter, ifs, 0⟩, ⟨tg1, iter1, ifs1, 0⟩] scope pos) spos) (tAsg (tLc2 (tMI X.K c mi) t (tMB X.K c cd) (tMI X.K c mi1) t1 (tMB X.K c cd1) (tM X.K c el) (own.map (·.2)) vs1) (gName i))) : SM X c (.Assign [.Name y py] (.ListComp elt [⟨tg, iter, ifs, 0⟩, ⟨tg1, iter1, ifs1, 0⟩] scope pos) spos) (setS i (lc2M mi (own.map (·.2)) g cd mi1 vs1 g1 cd1 el)) :=
  ps_wk h fun D σ H ⟨W, h, s, e, S, rs, p⟩ => by
    subst e
    exact lc2_of ho ho1 ⟨W, h, s, rfl, S, rs, p.bnd fun W1 h1 y x1 S1 p1 v r1 => p1 W1 _ (Ext.refl _) S1 ((rs.mono x1).set r1 i)⟩
theorem frz_of {K : PySem.W.Frag} {m : ME} {σ : St} {H : Hp} {Q : VK} (q : tM K c (frzM m) σ H Q) : tM K c m σ H Q := by
  obtain ⟨W, h, s, e, S, rs, p⟩ := q
  subst e
  refine ⟨W, h, s, rfl, S, rs, p.bnd fun W1 h1 x x1 S1 p1 v r1 => ?_⟩
  cases hf : frzV 4 x h1 with
  | none =>
    rw [hf] at p1
    exact p1.elim
  | some q =>
    rw [hf] at p1
    obtain ⟨W2, T, S2, r2⟩ := frzV_ok 4 x h1 q.1 q.2 W1 v hf S1 r1
    rw [← T.H]
    exact p1 W2 T.x S2 v r2
theorem s_lc2F {elt tg iter tg1 iter1 : Expr} {ifs ifs1 : List Expr} {scope : Scope} {own : List (Str × Nat)} {vs1 : List Nat} {pos spos py : Pos} {y : Str} {i : Nat} {mi mi1 : MM MIter} {t t1 : TG} {g g1 : MV → MS → Option MS} {cd cd1 : MM Bool} {el : ME} (ho : TgC X.K t g (own.map (·.2))) (ho1 : TgC X.K t1 g1 vs1)
    (h : PS X (.Assign [.Name y py] (.ListComp elt [⟨tg, iter, ifs, 0⟩, ⟨tg1, iter1, ifs1, 0⟩] scope pos) spos) (tAsg (tLc2 (tMI X.K c mi) t (tMB X.K c cd) (tMI X.K c mi1) t1 (tMB X.K c cd1) (tM X.K c el) (own.map (·.2)) vs1) (gName i))) : SM X c (.Assign [.Name y py] (.ListComp elt [⟨tg, iter, ifs, 0⟩, ⟨tg1, iter1, ifs1, 0⟩] scope pos) spos) (setS i (frzM (lc2M mi (own.map (·.2)) g cd mi1 vs1 g1 cd1 el))) :=
  ps_wk h fun D σ H ⟨W, h, s, e, S, rs, p⟩ => by
    subst e
    exact lc2_of ho ho1 (frz_of ⟨W, h, s, rfl, S, rs, p.bnd fun W1 h1 y x1 S1 p1 v r1 => p1 W1 _ (Ext.refl _) S1 ((rs.mono x1).set r1 i)⟩)
/-! names that take a list's items -/
@[simp ↓] def unpL (is : List Nat) : MV → MS → Option MS := fun x s => match x with
  | .fls xs => putAll is xs s
  | _ => none
theorem tg_lst {K : PySem.W.Frag} (is : List Nat) : TgM K (gLst K is.length (gNames is)) (unpL is) := fun W s s' σ x v Q rs r e q => by
  cases x <;> first | (cases e; done) | skip
  cases r with
  | fls st e1 t => exact ⟨_, _, rfl, .inl (.inl e1), by rw [← t.length]; exact putAll_len e, tg_all is W s s' σ _ _ Q rs t e q⟩
/-! bit_length -/
@[simp ↓] def bitsM (m : ME) : ME := fun s h => (m s h).bnd fun x h1 => match x with
  | .int i => ok (.int (Builtin.Int.intBits i : Nat)) h1
  | _ => none
theorem em_bits {o : Expr} {apos pos : Pos} {m : ME} (ho : EM X c o m) (hbase : attributeBase o "bit_length" X.env (eval o X.env) = eval o X.env := by rfl) (hline : (apos.endLine == pos.line) = true := by rfl) : EM X c (.Call (.Attribute o "bit_length" apos) [] [] pos) (bitsM m) :=
  pe_wk (pe_bits ho hbase hline) fun σ H Q ⟨W, h, s, e, S, rs, p⟩ => by
    subst e
    refine ⟨W, h, s, rfl, S, rs, p.bnd fun W1 h1 x x1 S1 p1 v r1 => ?_⟩
    cases x <;> first | exact p1.elim | skip
    cases r1
    exact ⟨_, rfl, p1 W1 (Ext.refl _) S1 _ (.int _)⟩
end
end Mi
set_option maxHeartbeats 2000000
/-! Mi: how two fors reckon when their parts leave the heap alone. -/
namespace Mi
open PySem L2
theorem run_nat {n : Nat} : runOf 0 n = (List.range n).map fun (i : Nat) => MV.int (i : Int) := by
  unfold runOf
  exact List.map_congr_left fun i _ => by rw [Int.zero_add]
theorem liS_pure {β : Type} {val : β → MV} {e : β → MV} {g : MV → MS → Option MS} {el : ME} {s0 : MS} {l : Nat} {k : MH → Res MV} : ∀ {xs : List β} {acc : List MV} {h : MH}, h[l]? = some (.lst acc) → (∀ x ∈ xs, ∃ s1, g (val x) s0 = some s1 ∧ ∀ h, el s1 h = ok (e x) h) → acc.length + xs.length ≤ lim →
    liS g yesT el s0 l k (xs.map val) h = k (h.set l (.lst (acc ++ xs.map e)))
  | [], acc, h, hl, _, _ => by
    have : h.set l (.lst acc) = h := by
      obtain ⟨hlt, e⟩ := List.getElem?_eq_some_iff.mp hl
      rw [← e, List.set_getElem_self]
    show k h = _
    rw [List.map_nil, List.append_nil, this]
  | x :: xs, acc, h, hl, hs, hn => by
    obtain ⟨s1, e1, e2⟩ := hs x (List.mem_cons_self ..)
    rw [List.length_cons] at hn
    have ih := liS_pure (g := g) (el := el) (s0 := s0) (l := l) (k := k) (xs := xs) (acc := acc ++ [e x]) (h := h.set l (.lst (acc ++ [e x]))) (get_set hl) (fun y hy => hs y (List.mem_cons_of_mem _ hy)) (by rw [List.length_append]; show acc.length + 1 + xs.length ≤ lim; omega)
    rw [List.set_set, List.append_assoc] at ih
    rw [List.map_cons]
    unfold liS
    rw [e1]
    show (ok true h).bnd _ = _
    rw [bnd_ok, if_pos rfl, e2, bnd_ok, hl]
    dsimp only
    rw [if_pos (by omega), ih]
    rfl
theorem lc2_pure {α β : Type} {val : α → MV} {valy : β → MV} {ys : α → List β} {e : α → β → MV} {g g1 : MV → MS → Option MS} {mi1 : MM MIter} {vs1 : List Nat} {el : ME} {s0 : MS} {l : Nat} : ∀ {xs : List α} {acc : List MV} {h : MH}, h[l]? = some (.lst acc) →
    (∀ x ∈ xs, ∃ s1, g (val x) s0 = some s1 ∧ (∀ h, mi1 s1 h = ok (.st ((ys x).map valy)) h) ∧ ∀ y ∈ ys x, ∃ s2, g1 (valy y) (wipeM s1 vs1) = some s2 ∧ ∀ h, el s2 h = ok (e x y) h) → acc.length + (xs.flatMap fun x => (ys x).map (e x)).length ≤ lim →
    lc2S g yesT mi1 vs1 g1 yesT el s0 l (xs.map val) h = ok (.ref l) (h.set l (.lst (acc ++ xs.flatMap fun x => (ys x).map (e x))))
  | [], acc, h, hl, _, _ => by
    have : h.set l (.lst acc) = h := by
      obtain ⟨hlt, e⟩ := List.getElem?_eq_some_iff.mp hl
      rw [← e, List.set_getElem_self]
    show ok (MV.ref l) h = _
    rw [List.flatMap_nil, List.append_nil, this]
  | x :: xs, acc, h, hl, hs, hn => by
    obtain ⟨s1, e1, e2, e3⟩ := hs x (List.mem_cons_self ..)
    rw [List.flatMap_cons, List.length_append, List.length_map] at hn
    have ih := lc2_pure (g := g) (g1 := g1) (mi1 := mi1) (vs1 := vs1) (el := el) (s0 := s0) (l := l) (e := e) (xs := xs) (acc := acc ++ (ys x).map (e x)) (h := h.set l (.lst (acc ++ (ys x).map (e x)))) (get_set hl) (fun y hy => hs y (List.mem_cons_of_mem _ hy)) (by rw [List.length_append, List.length_map]; omega)
    rw [List.set_set, List.append_assoc] at ih
    rw [List.map_cons]
    unfold lc2S
    rw [e1]
    show (ok true h).bnd _ = _
    rw [bnd_ok, if_pos rfl, e2, bnd_ok]
    show liS g1 yesT el _ _ _ _ _ = _
    rw [liS_pure hl e3 (by omega), ih, List.flatMap_cons]
/-- two fors, frozen at once -/
theorem frz_lc2 {α β : Type} {val : α → MV} {valy : β → MV} {xs : List α} {ys : α → List β} {e : α → β → MV} {g g1 : MV → MS → Option MS} {mi mi1 : MM MIter} {vs vs1 : List Nat} {el : ME} {s : MS} {h : MH} (hm : mi s h = ok (.st (xs.map val)) h)
    (hs : ∀ x ∈ xs, ∃ s1, g (val x) (wipeM s vs) = some s1 ∧ (∀ h, mi1 s1 h = ok (.st ((ys x).map valy)) h) ∧ ∀ y ∈ ys x, ∃ s2, g1 (valy y) (wipeM s1 vs1) = some s2 ∧ ∀ h, el s2 h = ok (e x y) h) (hn : (xs.flatMap fun x => (ys x).map (e x)).length ≤ lim) (hf : ∀ x ∈ xs, ∀ y ∈ ys x, flatT (e x y) = true) :
    frzM (lc2M mi vs g yesT mi1 vs1 g1 yesT el) s h = ok (.fls (xs.flatMap fun x => (ys x).map (e x))) (h ++ [.dead]) := by
  have e1 := lc2_pure (g := g) (g1 := g1) (mi1 := mi1) (vs1 := vs1) (el := el) (s0 := wipeM s vs) (l := h.length) (e := e) (xs := xs) (val := val) (ys := ys) (valy := valy) (acc := []) (h := h ++ [.lst []]) get_app hs (by simpa using hn)
  have e2 : (h ++ [MO.lst []]).set h.length (.lst ([] ++ xs.flatMap fun x => (ys x).map (e x))) = h ++ [.lst (xs.flatMap fun x => (ys x).map (e x))] := by
    rw [List.set_append_right _ _ (Nat.le_refl _), Nat.sub_self]
    rfl
  rw [e2] at e1
  have fl : (xs.flatMap fun x => (ys x).map (e x)).all flatT = true := by
    rw [List.all_eq_true]
    intro z hz
    obtain ⟨x, hx, hz⟩ := List.mem_flatMap.mp hz
    obtain ⟨y, hy, rfl⟩ := List.mem_map.mp hz
    exact hf x hx y hy
  have e3 := frz_lst (h := h ++ [.lst (xs.flatMap fun x => (ys x).map (e x))]) (l := h.length) 2 get_app fl
  have e4 : (h ++ [MO.lst (xs.flatMap fun x => (ys x).map (e x))]).set h.length .dead = h ++ [.dead] := by
    rw [List.set_append_right _ _ (Nat.le_refl _), Nat.sub_self]
    rfl
  rw [e4] at e3
  show ((lc2M mi vs g yesT mi1 vs1 g1 yesT el s h).bnd _) = _
  unfold lc2M
  rw [hm, bnd_ok]
  dsimp only
  rw [e1, bnd_ok, e3]
end Mi
namespace Mi
/-- a new row behind the others -/
theorem Mat.push {h : MH} {R lo : Nat} {rows : List (List MV)} {rs : List Nat} (M : Mat h R rows lo rs) {ys : List MV} (hlo : lo ≤ h.length) : Mat ((h ++ [MO.lst ys]).set R (MO.lst (rs.map MV.ref ++ [MV.ref h.length]))) R (rows ++ [ys]) lo (rs ++ [h.length]) := by
  have new : ∀ r ∈ rs, r < h.length := fun r hr => by
    obtain ⟨i, hi⟩ := List.getElem?_of_mem hr
    obtain ⟨xs, hx⟩ : ∃ xs, rows[i]? = some xs := ⟨_, List.getElem?_eq_getElem (by rw [← M.len]; exact (List.getElem?_eq_some_iff.mp hi).1)⟩
    exact at_len (M.row i r xs hi hx)
  have nR : R ≠ h.length := Nat.ne_of_lt (at_len M.top)
  have nin : h.length ∉ rs := fun z => Nat.lt_irrefl _ (new _ z)
  refine ⟨?_, by rw [List.length_append, List.length_append, M.len]; rfl, ?_, fun z => ?_, M.loR, fun r hr => ?_, fun k r zs hr hz => ?_⟩
  · rw [get_set (get_app_left M.top), List.map_append]
    rfl
  · refine List.nodup_append.mpr ⟨M.nd, List.nodup_cons.mpr ⟨(fun z => nomatch z), List.nodup_nil⟩, fun a ha b hb e => ?_⟩
    obtain rfl := List.mem_singleton.mp hb
    exact nin (e ▸ ha)
  · rcases List.mem_append.mp z with z | z
    · exact M.no z
    · exact nR (List.mem_singleton.mp z)
  · rcases List.mem_append.mp hr with z | z
    · exact M.lor r z
    · rw [List.mem_singleton.mp z]
      exact hlo
  · by_cases hk : k < rs.length
    · rw [List.getElem?_append_left hk] at hr
      rw [List.getElem?_append_left (by rw [← M.len]; exact hk)] at hz
      exact get_set_ne (get_app_left (M.row k r zs hr hz)) fun z => M.no (by rw [← z]; exact List.mem_of_getElem? hr)
    · have e : k = rs.length := by
        have := (List.getElem?_eq_some_iff.mp hr).1
        rw [List.length_append] at this
        have t : k < rs.length + 1 := this
        omega
      subst e
      rw [List.getElem?_append_right (Nat.le_refl _), Nat.sub_self] at hr
      rw [List.getElem?_append_right (by rw [M.len]; exact Nat.le_refl _), M.len, Nat.sub_self] at hz
      cases hr
      cases hz
      exact get_set_ne get_app (Ne.symm nR)
theorem mat_nil {h : MH} : Mat (h ++ [MO.lst []]) h.length [] h.length [] := ⟨get_app, rfl, List.nodup_nil, (fun z => nomatch z), Nat.le_refl _, (fun _ z => nomatch z), fun i r xs hr _ => by simp at hr⟩
theorem set_app {h : MH} {o u : MO} : (h ++ [o]).set h.length u = h ++ [u] := by
  rw [List.set_append_right _ _ (Nat.le_refl _), Nat.sub_self]
  rfl
theorem tb_add {α : Type} {F : Nat → α} {a : Nat} : ∀ {b : Nat}, tb (a + b) F = tb a F ++ tb b fun i => F (a + i)
  | 0 => by simp [tb]
  | b + 1 => by rw [← Nat.add_assoc, tb_succ, tb_add, tb_succ, List.append_assoc]
end Mi
set_option maxHeartbeats 2000000
/-! Mi: in, by values of any depth; list.insert. -/
namespace Mi
open PySem L2
@[simp ↓] def insF (x : MV) (ys : List MV) (h : MH) : Res MV := match x, ys with
  | .ref l, [.int i, y] => match h[l]? with
    | some (.lst xs) => if xs.length < lim ∧ 0 ≤ i ∧ i ≤ 1000000 then ok .non (h.set l (.lst (xs.take i.toNat ++ [y] ++ xs.drop i.toNat))) else none
    | _ => none
  | _, _ => none
def inDB (h : MH) (x y : MV) : Option Bool := match pyOf x, (seqOf h y).bind pysOf with
  | some d, some ds => if SeqAt.shaped d = true ∧ SeqAt.shaped (.list ds) = true then some (ds.any fun z => PyData.eqv z d) else none
  | _, _ => none
@[simp ↓] def inDF (x y : MV) (h : MH) : Res MV := match inDB h x y with
  | some b => ok (.bl b) h
  | none => none
@[simp ↓] def ninDF (x y : MV) (h : MH) : Res MV := match inDB h x y with
  | some b => ok (.bl (!b)) h
  | none => none
section
variable {X : Cx} {c : XC} {K : PySem.W.Frag} {W : Wd}
theorem units65 {k : Nat} {A : Around} (r : Room k A) : A.units + 65 < cLine := by
  have := r.un
  omega
def rInsert : V → List V → Hp → VK → Prop := fun x vs H Q => ∃ (l : Addr) (xs : List V) (i : Int) (y : V), x = .ref l ∧ vs = [.int i, y] ∧ H l = some (.lst xs) ∧ xs.length < sizeLine ∧ 0 ≤ i ∧ i < 2 ^ 63 ∧ Q .non (upd H l (.lst (xs.take i.toNat ++ [y] ++ xs.drop i.toNat)))
theorem mt_ins : MtR X "list.insert" rInsert := mt_insert
theorem mm_ins : MthM K c rInsert insF := fun W h x ys v vs Q S r rs p => by
  unfold insF at p
  split at p
  · rename_i l i y
    obtain ⟨u1, u, rfl, ri, ry⟩ := rvs_two rs
    cases hl : h[l]? with
    | none =>
      rw [hl] at p
      exact p.elim
    | some o =>
      rw [hl] at p
      cases o with
      | dead => exact p.elim
      | dK kvs => exact p.elim
      | lst xs =>
        dsimp only at p
        by_cases q : xs.length < lim ∧ 0 ≤ i ∧ i ≤ 1000000
        · rw [if_pos q] at p
          obtain ⟨a, ws, rfl, e2, e3, t⟩ := S.lstAt hl r
          refine ⟨a, ws, i, u, rfl, by rw [rv_int ri], e3, Nat.lt_of_lt_of_le (by rw [← t.length]; exact q.1) (lim_line (Nat.le_refl _)), q.2.1, by omega, ?_⟩
          exact p (W.wr a (.lst (ws.take i.toNat ++ [u] ++ ws.drop i.toNat))) (Ext.wr S e2) (S.wr e2 ⟨_, upd_same, (((t.take _).append (.one ry)).append (t.drop _)).mono (Ext.wr S e2)⟩) _ .non
        · rw [if_neg q] at p
          exact p.elim
  · exact p.elim
/-! in -/
def rInT (K : PySem.W.Frag) (n : Bool) : R2 := fun x y H Q => ∃ d ds, Dp K H x d ∧ Dp K H y (.tuple ds) ∧ SeqAt.shaped d = true ∧ SeqAt.shaped (.list ds) = true ∧ Q (.bl (if n then !ds.any fun z => PyData.eqv z d else ds.any fun z => PyData.eqv z d)) H
theorem op_inT (hu : X.A.units + 65 < cLine) : OpR X (compareOp .In) (rInT X.K false) := by
  intro pins s σ H x y v u Q I rx ry h
  obtain ⟨d, ds, hd, he, sd, se, q⟩ := h
  obtain ⟨as, r1⟩ := Dp.reads I d x v hd rx
  obtain ⟨bs, r2⟩ := Dp.reads I (.tuple ds) y u he ry
  exact SeqAt.in_tuple_reads r2 r1 (SeqAt.canLay_of_shaped se) (SeqAt.canLay_of_shaped sd) (PyProof.Rows.room_in_shaped sd hu) ⟨.bl _, H, I, rfl, q⟩
theorem op_ninT (hu : X.A.units + 65 < cLine) : OpR X (compareOp .NotIn) (rInT X.K true) := by
  intro pins s σ H x y v u Q I rx ry h
  obtain ⟨d, ds, hd, he, sd, se, q⟩ := h
  obtain ⟨as, r1⟩ := Dp.reads I d x v hd rx
  obtain ⟨bs, r2⟩ := Dp.reads I (.tuple ds) y u he ry
  exact SeqAt.notIn_tuple_reads r2 r1 (SeqAt.canLay_of_shaped se) (SeqAt.canLay_of_shaped sd) (PyProof.Rows.room_in_shaped sd hu) ⟨.bl _, H, I, rfl, q⟩
def rInA (K : PySem.W.Frag) : R2 := fun x y H Q => rInD K x y H Q ∨ rInT K false x y H Q
def rNinA (K : PySem.W.Frag) : R2 := fun x y H Q => rNotInD K x y H Q ∨ rInT K true x y H Q
theorem op_inA (hu : X.A.units + 65 < cLine) : OpR X (compareOp .In) (rInA X.K) := OpR.or (op_inD hu) (op_inT hu)
theorem op_ninA (hu : X.A.units + 65 < cLine) : OpR X (compareOp .NotIn) (rNinA X.K) := OpR.or (op_notInD hu) (op_ninT hu)
theorem inDB_dp {h : MH} {x y : MV} {u v : V} {b : Bool} (S : Sim K W h) (r1 : RV K W x u) (r2 : RV K W y v) (e : inDB h x y = some b) :
    ∃ d ds, Dp K W.H u d ∧ (Dp K W.H v (.list ds) ∨ Dp K W.H v (.tuple ds)) ∧ SeqAt.shaped d = true ∧ SeqAt.shaped (.list ds) = true ∧ (ds.any fun z => PyData.eqv z d) = b := by
  unfold inDB at e
  cases h1 : pyOf x with
  | none =>
    rw [h1] at e
    cases e
  | some d =>
    cases h2 : seqOf h y with
    | none =>
      rw [h1, h2] at e
      cases e
    | some xs =>
      cases h3 : pysOf xs with
      | none =>
        rw [h1, h2, Option.bind_some, h3] at e
        cases e
      | some ds =>
        rw [h1, h2, Option.bind_some, h3] at e
        have e' : (if SeqAt.shaped d = true ∧ SeqAt.shaped (.list ds) = true then some (ds.any fun z => PyData.eqv z d) else none) = some b := e
        by_cases q : SeqAt.shaped d = true ∧ SeqAt.shaped (.list ds) = true
        · rw [if_pos q] at e'
          obtain ⟨a, vs, e1, e2, t⟩ := seq_sq S r2 h2
          subst e1
          have da := pys_dp t h3
          refine ⟨d, ds, py_dp r1 h1, ?_, q.1, q.2, Option.some.inj e'⟩
          rcases e2 with e2 | e2
          · exact .inl (.lst e2 da)
          · exact .inr (.tup e2 da)
        · rw [if_neg q] at e'
          cases e'
theorem opm_inA : OpM K c (rInA K) inDF := fun W h x y u v Q S r1 r2 p => by
  unfold inDF at p
  cases e : inDB h x y with
  | none =>
    rw [e] at p
    exact p.elim
  | some b =>
    rw [e] at p
    obtain ⟨d, ds, a1, a2, a3, a4, a5⟩ := inDB_dp S r1 r2 e
    rcases a2 with a2 | a2
    · exact .inl ⟨d, ds, a1, a2, a3, a4, by rw [a5]; exact p.now S _ (.bl _)⟩
    · exact .inr ⟨d, ds, a1, a2, a3, a4, by rw [if_neg Bool.false_ne_true, a5]; exact p.now S _ (.bl _)⟩
theorem opm_ninA : OpM K c (rNinA K) ninDF := fun W h x y u v Q S r1 r2 p => by
  unfold ninDF at p
  cases e : inDB h x y with
  | none =>
    rw [e] at p
    exact p.elim
  | some b =>
    rw [e] at p
    obtain ⟨d, ds, a1, a2, a3, a4, a5⟩ := inDB_dp S r1 r2 e
    rcases a2 with a2 | a2
    · exact .inl ⟨d, ds, a1, a2, a3, a4, by rw [a5]; exact p.now S _ (.bl _)⟩
    · exact .inr ⟨d, ds, a1, a2, a3, a4, by rw [if_pos rfl, a5]; exact p.now S _ (.bl _)⟩
end
end Mi
set_option maxHeartbeats 2000000
namespace Mi.k03
open PySem L2
noncomputable section
def m_points_in : MT := (seqS (setS 1 (refM (lstM nilA)))
    (seqS (whlG (truM (varM 0)) (seqS (setS 2 (opM andF (varM 0) (unM negF (varM 0))))
    (seqS (dropS (mthM appF (varM 1) (consA (opM subF (bitsM (varM 2)) (cM (.int 1))) nilA)))
    (setS 0 (opM subF (varM 0) (varM 2))))) 70)
    (retS (bltM tupF (consA (varM 1) nilA)))))
def f_points_in : MF := defM 1 3 m_points_in
theorem n_points_in : ∀ (xs : List MV) (h : MH), (f_points_in xs h).isSome = true → xs.length = 1 := fun _ _ e => defM_len e
def m_is_link : MT := (seqS (asgS (unp [2, 3]) (varM 1))
    (retS (andV (chainM leF ltF (cM (.int 0)) (varM 2) (varM 0)) (chainM leF ltF (cM (.int 0)) (varM 3) (varM 0)))))
def f_is_link : MF := defM 2 4 m_is_link
theorem n_is_link : ∀ (xs : List MV) (h : MH), (f_is_link xs h).isSome = true → xs.length = 2 := fun _ _ e => defM_len e
def m_high_masks : MT := (seqS (asgS (unp [1, 2]) (varM 0))
    (seqS (setS 3 (refM (repL (flsM (lstM (consA (cM (.int 0)) nilA))) (varM 1))))
    (seqS (forM (seqI (varM 2)) (unp [4, 5]) (subS (opM orF (opM ixF (varM 3) (varM 4)) (opM shlF (cM (.int 1)) (varM 5))) (varM 3) (varM 4)))
    (retS (bltM tupF (consA (varM 3) nilA))))))
def f_high_masks : MF := defM 1 6 m_high_masks
theorem n_high_masks : ∀ (xs : List MV) (h : MH), (f_high_masks xs h).isSome = true → xs.length = 1 := fun _ _ e => defM_len e
def m_ways : MT := (seqS (setS 2 (refM (bltL lstF (consA (callM f_high_masks [] (consA (tupM (consA (varM 0) (consA (varM 1) nilA))) nilA)) nilA))))
    (seqS (forM (rng1 (consA (varM 0) nilA)) (one 3) (forM (rng1 (consA (varM 0) nilA)) (one 4) (ifS (truM (opM andF (opM shrF (opM ixF (varM 2) (varM 4)) (varM 3)) (cM (.int 1)))) (subS (opM orF (opM ixF (varM 2) (varM 4)) (opM ixF (varM 2) (varM 3))) (varM 2) (varM 4)) nilS)))
    (retS (frzM (varM 2)))))
def f_ways : MF := defM 2 5 m_ways
theorem n_ways : ∀ (xs : List MV) (h : MH), (f_ways xs h).isSome = true → xs.length = 2 := fun _ _ e => defM_len e
def m_order_of : MT := (seqS (forM (seqI (varM 1)) (one 2) (ifS (notT (truM (callM f_is_link [] (consA (varM 0) (consA (varM 2) nilA))))) neverS nilS))
    (seqS (setS 3 (callM f_ways [] (consA (varM 0) (consA (varM 1) nilA))))
    (seqS (setS 4 (bltM tupF (consA (flsM (lcM (rng1 (consA (varM 0) nilA)) [5] (one 5) (truM (opM andF (opM shrF (opM ixF (varM 3) (varM 5)) (varM 5)) (cM (.int 1)))) (varM 5))) nilA)))
    (seqS (ifS (truM (varM 4)) neverS nilS)
    (retS (tupM (consA (varM 0) (consA (bltM tupF (consA (frzM (lc2M (enmI (consA (varM 3) nilA)) [5, 6, 7] (unp [5, 6]) yesT (seqI (callM f_points_in [] (consA (varM 6) nilA))) [7] (one 7) yesT (tupM (consA (varM 5) (consA (varM 7) nilA))))) nilA)) nilA))))))))
def f_order_of : MF := defM 2 8 m_order_of
theorem n_order_of : ∀ (xs : List MV) (h : MH), (f_order_of xs h).isSome = true → xs.length = 2 := fun _ _ e => defM_len e
def m_low_masks : MT := (seqS (asgS (unp [1, 2]) (varM 0))
    (seqS (setS 3 (refM (repL (flsM (lstM (consA (cM (.int 0)) nilA))) (varM 1))))
    (seqS (forM (seqI (varM 2)) (unp [4, 5]) (subS (opM orF (opM ixF (varM 3) (varM 5)) (opM shlF (cM (.int 1)) (varM 4))) (varM 3) (varM 5)))
    (retS (bltM tupF (consA (varM 3) nilA))))))
def f_low_masks : MF := defM 1 6 m_low_masks
theorem n_low_masks : ∀ (xs : List MV) (h : MH), (f_low_masks xs h).isSome = true → xs.length = 1 := fun _ _ e => defM_len e
def m_covers : MT := (seqS (setS 1 (callM f_high_masks [] (consA (varM 0) nilA)))
    (seqS (setS 2 (callM f_low_masks [] (consA (varM 0) nilA)))
    (retS (bltM tupF (consA (flsM (lcM (seqI (opM ixF (varM 0) (cM (.int 1)))) [3, 4] (unp [3, 4]) (tstM (opM eqF (opM andF (opM ixF (varM 1) (varM 3)) (opM ixF (varM 2) (varM 4))) (cM (.int 0)))) (tupM (consA (varM 3) (consA (varM 4) nilA))))) nilA)))))
def f_covers : MF := defM 1 5 m_covers
theorem n_covers : ∀ (xs : List MV) (h : MH), (f_covers xs h).isSome = true → xs.length = 1 := fun _ _ e => defM_len e
def m_law_box : MT := (retS (refM (lstM (consA (cM (.int 0)) (consA (cM (.int 0)) (consA (cM (.int 0)) (consA (cM (.int 0)) (consA (cM (.int 1)) (consA (flsM (lcM (seqI (varM 0)) [1] (one 1) yesT (bltM intF (consA (varM 1) nilA)))) nilA)))))))))
def f_law_box : MF := defM 1 2 m_law_box
theorem n_law_box : ∀ (xs : List MV) (h : MH), (f_law_box xs h).isSome = true → xs.length = 1 := fun _ _ e => defM_len e
def m_law_alike (r : MF) : MT := (seqS (ifS (truM (isiM [.tuple, .list] (varM 1))) (seqS (ifS (orT (tstM (opM neF (isiM [.tuple] (varM 0)) (isiM [.tuple] (varM 1)))) (tstM (opM neF (isiM [.list] (varM 0)) (isiM [.list] (varM 1))))) (retS (cM (.bl false))) nilS)
    (seqS (ifS (tstM (opM neF (bltM lenF (consA (varM 0) nilA)) (bltM lenF (consA (varM 1) nilA)))) (retS (cM (.bl false))) nilS)
    (seqS (forM (rng1 (consA (bltM lenF (consA (varM 1) nilA)) nilA)) (one 2) (ifS (notT (truM (callM r [] (consA (opM ixF (varM 0) (varM 2)) (consA (opM ixF (varM 1) (varM 2)) nilA))))) (retS (cM (.bl false))) nilS))
    (retS (cM (.bl true)))))) nilS)
    (seqS (ifS (tstM (opM isF (varM 1) (cM .non))) (retS (opM isF (varM 0) (cM .non))) nilS)
    (seqS (ifS (truM (isiM [.bool] (varM 1))) (retS (andV (isiM [.bool] (varM 0)) (opM eqF (varM 0) (varM 1)))) nilS)
    (seqS (ifS (truM (isiM [.str] (varM 1))) (retS (andV (isiM [.str] (varM 0)) (opM eqF (varM 0) (varM 1)))) nilS)
    (retS (andV (isiM [.int] (varM 0)) (andV (notV (isiM [.bool] (varM 0))) (opM eqF (varM 0) (varM 1)))))))))
def fr_law_alike : Nat → MF
  | 0 => fun _ _ => none
  | k + 1 => defM 2 3 (m_law_alike (fr_law_alike k))
def f_law_alike : MF := fr_law_alike 5
theorem nr_law_alike : ∀ (k : Nat) (xs : List MV) (h : MH), (fr_law_alike k xs h).isSome = true → xs.length = 2
  | 0, _, _, e => by cases e
  | _ + 1, _, _, e => defM_len e
theorem n_law_alike : ∀ (xs : List MV) (h : MH), (f_law_alike xs h).isSome = true → xs.length = 2 := nr_law_alike _
def m_law_mix : MT := (seqS (setS 2 (opM modF (bltM intF (consA (opM addF (opM addF (opM mulF (varM 0) (cM (.int 48271))) (opM mulF (varM 1) (cM (.int 69621)))) (cM (.int 12345))) nilA)) (cM (.int 2147483647))))
    (retS (opM modF (bltM intF (consA (opM addF (opM addF (opM mulF (varM 2) (varM 2)) (opM mulF (varM 2) (cM (.int 16807)))) (opM mulF (varM 1) (cM (.int 7919)))) nilA)) (cM (.int 2147483629)))))
def f_law_mix : MF := defM 2 3 m_law_mix
theorem n_law_mix : ∀ (xs : List MV) (h : MH), (f_law_mix xs h).isSome = true → xs.length = 2 := fun _ _ e => defM_len e
def m_law_draw : MT := (seqS (ifS (andT (orT (tstM (opM eqF (opM ixF (varM 0) (cM (.int 0))) (cM (.int 0)))) (tstM (opM eqF (opM ixF (varM 0) (cM (.int 1))) (cM (.int 0))))) (tstM (opM ltF (opM ixF (varM 0) (cM (.int 2))) (bltM lenF (consA (opM ixF (varM 0) (cM (.int 5))) nilA))))) (seqS (setS 2 (opM ixF (opM ixF (varM 0) (cM (.int 5))) (opM ixF (varM 0) (cM (.int 2)))))
    (seqS (subS (opM addF (opM ixF (varM 0) (cM (.int 2))) (cM (.int 1))) (varM 0) (cM (.int 2)))
    (seqS (subS (opM modF (bltM intF (consA (opM addF (opM mulF (opM ixF (varM 0) (cM (.int 4))) (cM (.int 31))) (varM 2)) nilA)) (cM (.int 2147483647))) (varM 0) (cM (.int 4)))
    (seqS (subS (cM (.int 0)) (varM 0) (cM (.int 0)))
    (seqS (subS (cM (.int 60)) (varM 0) (cM (.int 1)))
    (ifS (tstM (opM eqF (opM modF (bltM intF (consA (varM 2) nilA)) (cM (.int 2))) (cM (.int 0)))) (subS (opM divF (bltM absF (consA (varM 2) nilA)) (cM (.int 2))) (varM 0) (cM (.int 0))) nilS)))))) nilS)
    (seqS (ifS (andT (tstM (opM gtF (opM ixF (varM 0) (cM (.int 0))) (cM (.int 0)))) (tstM (opM gtF (opM ixF (varM 0) (cM (.int 1))) (cM (.int 0))))) (seqS (setS 3 (opM modF (bltM intF (consA (opM ixF (varM 0) (cM (.int 0))) nilA)) (varM 1)))
    (seqS (subS (opM divF (opM ixF (varM 0) (cM (.int 0))) (varM 1)) (varM 0) (cM (.int 0)))
    (seqS (subS (opM subF (opM ixF (varM 0) (cM (.int 1))) (cM (.int 1))) (varM 0) (cM (.int 1)))
    (retS (varM 3))))) nilS)
    (seqS (subS (opM addF (opM ixF (varM 0) (cM (.int 3))) (cM (.int 1))) (varM 0) (cM (.int 3)))
    (retS (opM modF (bltM intF (consA (callM f_law_mix [] (consA (opM ixF (varM 0) (cM (.int 4))) (consA (opM ixF (varM 0) (cM (.int 3))) nilA))) nilA)) (varM 1))))))
def f_law_draw : MF := defM 2 4 m_law_draw
theorem n_law_draw : ∀ (xs : List MV) (h : MH), (f_law_draw xs h).isSome = true → xs.length = 2 := fun _ _ e => defM_len e
def m_law_line : MT := (seqS (setS 2 (refM (lcM (rng1 (consA (varM 1) nilA)) [3] (one 3) yesT (varM 3))))
    (retS (flsM (lcM (rng1 (consA (varM 1) nilA)) [3] (one 3) yesT (mthM popAtF (varM 2) (consA (callM f_law_draw [] (consA (varM 0) (consA (bltM lenF (consA (varM 2) nilA)) nilA))) nilA))))))
def f_law_line : MF := defM 2 4 m_law_line
theorem n_law_line : ∀ (xs : List MV) (h : MH), (f_law_line xs h).isSome = true → xs.length = 2 := fun _ _ e => defM_len e
def m_law_size : MT := (seqS (setS 1 (callM f_law_draw [] (consA (varM 0) (consA (cM (.int 16)) nilA))))
    (seqS (ifS (tstM (opM ltF (varM 1) (cM (.int 9)))) (retS (callM f_law_draw [] (consA (varM 0) (consA (opM ixF (flsM (lstM (consA (cM (.int 4)) (consA (cM (.int 7)) (consA (cM (.int 9)) nilA))))) (opM modF (bltM intF (consA (varM 1) nilA)) (cM (.int 3)))) nilA)))) nilS)
    (seqS (ifS (tstM (opM ltF (varM 1) (cM (.int 14)))) (retS (opM addF (cM (.int 4)) (callM f_law_draw [] (consA (varM 0) (consA (cM (.int 11)) nilA))))) nilS)
    (retS (opM ixF (flsM (lstM (consA (opM addF (cM (.int 15)) (callM f_law_draw [] (consA (varM 0) (consA (cM (.int 50)) nilA)))) (consA (cM (.int 64)) nilA)))) (opM modF (bltM intF (consA (varM 1) nilA)) (cM (.int 2))))))))
def f_law_size : MF := defM 1 2 m_law_size
theorem n_law_size : ∀ (xs : List MV) (h : MH), (f_law_size xs h).isSome = true → xs.length = 1 := fun _ _ e => defM_len e
def m_law_linked : MT := (seqS (setS 2 (callM f_law_draw [] (consA (varM 0) (consA (cM (.int 6)) nilA))))
    (seqS (setS 3 (opM divF (bltM lenF (consA (varM 1) nilA)) (cM (.int 2))))
    (seqS (setS 4 (flsM (lstM nilA)))
    (seqS (forM (rng2 (consA (cM (.int 1)) (consA (bltM lenF (consA (varM 1) nilA)) nilA))) (one 5) (seqS (setS 6 (flsM (lstM nilA)))
    (seqS (ifS (andT (tstM (opM ltF (varM 2) (cM (.int 2)))) (tstM (opM ltF (bltM lenF (consA (varM 1) nilA)) (cM (.int 10))))) (setS 6 (flsM (lcM (rng1 (consA (varM 5) nilA)) [7] (one 7) (tstM (opM eqF (callM f_law_draw [] (consA (varM 0) (consA (cM (.int 2)) nilA))) (cM (.int 0)))) (varM 7)))) (ifS (andT (tstM (opM ltF (varM 2) (cM (.int 2)))) (tstM (opM ltF (bltM lenF (consA (varM 1) nilA)) (cM (.int 33))))) (setS 6 (flsM (lcM (rng1 (consA (opM mulF (varM 3) (bltM intF (consA (opM geF (varM 5) (varM 3)) nilA))) nilA)) [7] (one 7) (tstM (opM eqF (callM f_law_draw [] (consA (varM 0) (consA (cM (.int 2)) nilA))) (cM (.int 0)))) (varM 7)))) (ifS (tstM (opM ltF (varM 2) (cM (.int 3)))) (setS 6 (flsM (lcM (rng1 (consA (callM f_law_draw [] (consA (varM 0) (consA (cM (.int 4)) nilA))) nilA)) [8] (one 8) yesT (callM f_law_draw [] (consA (varM 0) (consA (varM 5) nilA)))))) (ifS (tstM (opM eqF (varM 2) (cM (.int 3)))) (setS 6 (flsM (lstM (consA (callM f_law_draw [] (consA (varM 0) (consA (varM 5) nilA))) nilA)))) (ifS (andT (tstM (opM eqF (varM 2) (cM (.int 4)))) (tstM (opM gtF (callM f_law_draw [] (consA (varM 0) (consA (cM (.int 3)) nilA))) (cM (.int 0))))) (setS 6 (flsM (lcM (rng1 (consA (cM (.int 2)) nilA)) [8] (one 8) yesT (opM subF (opM subF (varM 5) (cM (.int 1))) (callM f_law_draw [] (consA (varM 0) (consA (bltM min2F (consA (varM 5) (consA (cM (.int 3)) nilA))) nilA))))))) (ifS (andT (tstM (opM eqF (varM 2) (cM (.int 5)))) (tstM (opM gtF (callM f_law_draw [] (consA (varM 0) (consA (cM (.int 12)) nilA))) (cM (.int 0))))) (setS 6 (flsM (lstM (consA (opM subF (varM 5) (cM (.int 1))) nilA)))) nilS))))))
    (setS 4 (flsM (catL (varM 4) (flsM (lcM (seqI (varM 6)) [7] (one 7) yesT (tupM (consA (opM ixF (varM 1) (varM 7)) (consA (opM ixF (varM 1) (varM 5)) nilA)))))))))))
    (retS (varM 4))))))
def f_law_linked : MF := defM 2 9 m_law_linked
theorem n_law_linked : ∀ (xs : List MV) (h : MH), (f_law_linked xs h).isSome = true → xs.length = 2 := fun _ _ e => defM_len e
def m_law_lower : MT := (seqS (setS 2 (bltM lenF (consA (varM 0) nilA)))
    (seqS (setS 3 (refM (lcM (rng1 (consA (varM 2) nilA)) [5] (one 5) yesT (refM (lcM (rng1 (consA (varM 2) nilA)) [4] (one 4) yesT (cM (.bl false)))))))
    (seqS (setS 6 (refM (lcM (rng1 (consA (varM 2) nilA)) [5] (one 5) yesT (refM (lstM nilA)))))
    (seqS (forM (seqI (varM 1)) (unp [4, 5]) (dropS (mthM appF (opM ixF (varM 6) (varM 5)) (consA (varM 4) nilA))))
    (seqS (forM (seqI (varM 0)) (one 5) (forM (seqI (opM ixF (varM 6) (varM 5))) (one 4) (ifS (tstM (opM eqF (bltM lenF (consA (opM ixF (varM 6) (varM 4)) nilA)) (cM (.int 0)))) (subS (cM (.bl true)) (opM ixF (varM 3) (varM 5)) (varM 4)) (ifS (notT (truM (opM ixF (opM ixF (varM 3) (varM 5)) (varM 4)))) (subS (refM (lcM (rng1 (consA (varM 2) nilA)) [7] (one 7) yesT (orV (opM ixF (opM ixF (varM 3) (varM 5)) (varM 7)) (orV (opM ixF (opM ixF (varM 3) (varM 4)) (varM 7)) (opM eqF (varM 7) (varM 4)))))) (varM 3) (varM 5)) nilS))))
    (retS (frzM (varM 3))))))))
def f_law_lower : MF := defM 2 8 m_law_lower
theorem n_law_lower : ∀ (xs : List MV) (h : MH), (f_law_lower xs h).isSome = true → xs.length = 2 := fun _ _ e => defM_len e
def m_law_pairs : MT := (seqS (setS 1 (flsM (lstM nilA)))
    (seqS (forM (rng1 (consA (bltM lenF (consA (varM 0) nilA)) nilA)) (one 2) (setS 1 (flsM (catL (varM 1) (flsM (lcM (rng1 (consA (bltM lenF (consA (varM 0) nilA)) nilA)) [3] (one 3) (truM (opM ixF (opM ixF (varM 0) (varM 3)) (varM 2))) (tupM (consA (varM 2) (consA (varM 3) nilA)))))))))
    (retS (bltM tupF (consA (varM 1) nilA)))))
def f_law_pairs : MF := defM 1 4 m_law_pairs
theorem n_law_pairs : ∀ (xs : List MV) (h : MH), (f_law_pairs xs h).isSome = true → xs.length = 1 := fun _ _ e => defM_len e
def m_law_due : MT := (seqS (setS 3 (refM (lstM nilA)))
    (seqS (forM (seqI (flsM (bltL sortPF (consA (varM 1) nilA)))) (unp [4, 5]) (ifS (andT (tstM (opM ninDF (tupM (consA (varM 4) (consA (varM 5) nilA))) (varM 3))) (notT (truM (bltM anyF (consA (flsM (lcM (rng1 (consA (varM 0) nilA)) [6] (one 6) yesT (andV (opM ixF (opM ixF (varM 2) (varM 6)) (varM 4)) (opM ixF (opM ixF (varM 2) (varM 5)) (varM 6))))) nilA))))) (dropS (mthM appF (varM 3) (consA (tupM (consA (varM 4) (consA (varM 5) nilA))) nilA))) nilS))
    (retS (bltM tupF (consA (varM 3) nilA)))))
def f_law_due : MF := defM 3 7 m_law_due
theorem n_law_due : ∀ (xs : List MV) (h : MH), (f_law_due xs h).isSome = true → xs.length = 3 := fun _ _ e => defM_len e
def m_law_mingled : MT := (seqS (setS 2 (refM (lstM nilA)))
    (seqS (forM (seqI (varM 1)) (one 3) (dropS (mthM insF (varM 2) (consA (callM f_law_draw [] (consA (varM 0) (consA (opM addF (bltM lenF (consA (varM 2) nilA)) (cM (.int 1))) nilA))) (consA (varM 3) nilA)))))
    (retS (frzM (varM 2)))))
def f_law_mingled : MF := defM 2 4 m_law_mingled
theorem n_law_mingled : ∀ (xs : List MV) (h : MH), (f_law_mingled xs h).isSome = true → xs.length = 2 := fun _ _ e => defM_len e
def m_law_reached : MT := (seqS (setS 3 (refM (lcM (rng1 (consA (varM 0) nilA)) [4] (one 4) yesT (cM (.bl false)))))
    (seqS (setS 5 (flsM (lstM (consA (varM 2) nilA))))
    (seqS (forM (rng1 (consA (opM addF (varM 0) (cM (.int 1))) nilA)) (one 6) (seqS (ifS (tstM (opM eqF (bltM lenF (consA (varM 5) nilA)) (cM (.int 0)))) brkS nilS)
    (seqS (setS 7 (refM (lstM nilA)))
    (seqS (forM (seqI (varM 1)) (unp [4, 8]) (ifS (andT (tstM (opM inF (varM 4) (varM 5))) (notT (truM (opM ixF (varM 3) (varM 8))))) (seqS (subS (cM (.bl true)) (varM 3) (varM 8))
    (dropS (mthM appF (varM 7) (consA (varM 8) nilA)))) nilS))
    (setS 5 (varM 7))))))
    (retS (frzM (varM 3))))))
def f_law_reached : MF := defM 3 9 m_law_reached
theorem n_law_reached : ∀ (xs : List MV) (h : MH), (f_law_reached xs h).isSome = true → xs.length = 3 := fun _ _ e => defM_len e
def m_law_walked : MT := (seqS (setS 2 (flsM (lstM nilA)))
    (seqS (forM (rng1 (consA (varM 0) nilA)) (one 3) (seqS (setS 4 (callM f_law_reached [] (consA (varM 0) (consA (varM 1) (consA (varM 3) nilA)))))
    (setS 2 (flsM (catL (varM 2) (flsM (lcM (rng1 (consA (varM 0) nilA)) [5] (one 5) (truM (opM ixF (varM 4) (varM 5))) (tupM (consA (varM 3) (consA (varM 5) nilA))))))))))
    (retS (tupM (consA (varM 0) (consA (bltM tupF (consA (varM 2) nilA)) nilA))))))
def f_law_walked : MF := defM 2 6 m_law_walked
theorem n_law_walked : ∀ (xs : List MV) (h : MH), (f_law_walked xs h).isSome = true → xs.length = 2 := fun _ _ e => defM_len e
def m_law_small : MT := (seqS (setS 3 (opM ixF (varM 1) (cM (.int 0))))
    (seqS (setS 4 (opM ixF (varM 1) (cM (.int 1))))
    (seqS (setS 5 (flsM (lcM (rng1 (consA (opM mulF (callM f_law_draw [] (consA (varM 0) (consA (cM (.int 5)) nilA))) (bltM intF (consA (opM gtF (bltM lenF (consA (varM 4) nilA)) (cM (.int 0))) nilA))) nilA)) [6] (one 6) yesT (opM ixF (varM 4) (callM f_law_draw [] (consA (varM 0) (consA (bltM lenF (consA (varM 4) nilA)) nilA)))))))
    (seqS (ifS (notT (truM (callM f_law_alike [] (consA (callM f_order_of [] (consA (varM 3) (consA (bltM tupF (consA (callM f_law_mingled [] (consA (varM 0) (consA (flsM (catL (flsM (bltL lstF (consA (varM 2) nilA))) (varM 5))) nilA))) nilA)) nilA))) (consA (varM 1) nilA))))) (retS (cM (.bl false))) nilS)
    (seqS (forM (rng1 (consA (opM mulF (cM (.int 2)) (bltM intF (consA (opM gtF (bltM lenF (consA (varM 2) nilA)) (cM (.int 0))) nilA))) nilA)) (one 6) (seqS (setS 7 (callM f_law_draw [] (consA (varM 0) (consA (bltM lenF (consA (varM 2) nilA)) nilA))))
    (seqS (setS 8 (opM addF (sliT (varM 2) noO (someO (varM 7))) (sliT (varM 2) (someO (opM addF (varM 7) (cM (.int 1)))) noO)))
    (seqS (setS 9 (callM f_law_walked [] (consA (varM 3) (consA (varM 8) nilA))))
    (seqS (ifS (orT (tstM (opM eqF (varM 9) (varM 1))) (orT (tstM (opM inDF (opM ixF (varM 2) (varM 7)) (opM ixF (varM 9) (cM (.int 1))))) (notT (truM (callM f_law_alike [] (consA (callKM f_order_of 0 2 [1, 0] [] nilA (consA (varM 8) (consA (varM 3) nilA))) (consA (varM 9) nilA))))))) (retS (cM (.bl false))) nilS)
    (ifS (notT (truM (callM f_law_alike [] (consA (callM f_covers [] (consA (varM 9) nilA)) (consA (varM 8) nilA))))) (retS (cM (.bl false))) nilS))))))
    (retS (cM (.bl true))))))))
def f_law_small : MF := defM 3 10 m_law_small
theorem n_law_small : ∀ (xs : List MV) (h : MH), (f_law_small xs h).isSome = true → xs.length = 3 := fun _ _ e => defM_len e
def m_law : MT := (seqS (setS 1 (callM f_law_box [] (consA (varM 0) nilA)))
    (seqS (setS 2 (callM f_law_line [] (consA (varM 1) (consA (callM f_law_size [] (consA (varM 1) nilA)) nilA))))
    (seqS (setS 3 (bltM lenF (consA (varM 2) nilA)))
    (seqS (setS 4 (callM f_law_linked [] (consA (varM 1) (consA (varM 2) nilA))))
    (seqS (setS 5 (callM f_law_lower [] (consA (varM 2) (consA (varM 4) nilA))))
    (seqS (setS 6 (tupM (consA (varM 3) (consA (callM f_law_pairs [] (consA (varM 5) nilA)) nilA))))
    (seqS (setS 7 (callM f_law_due [] (consA (varM 3) (consA (varM 4) (consA (varM 5) nilA)))))
    (seqS (setS 8 (callM f_covers [] (consA (varM 6) nilA)))
    (seqS (ifS (orT (notT (truM (callM f_law_alike [] (consA (varM 8) (consA (varM 7) nilA))))) (notT (truM (callM f_law_alike [] (consA (callM f_order_of [] (consA (varM 3) (consA (varM 8) nilA))) (consA (varM 6) nilA)))))) (retS (cM (.bl false))) nilS)
    (seqS (ifS (tstM (opM gtF (varM 3) (cM (.int 14)))) (retS (cM (.bl true))) nilS)
    (seqS (ifS (orT (notT (truM (callM f_law_alike [] (consA (callKM f_covers 0 1 [0] [] nilA (consA (varM 6) nilA)) (consA (varM 7) nilA))))) (notT (truM (callM f_law_small [] (consA (varM 1) (consA (varM 6) (consA (varM 7) nilA))))))) (retS (cM (.bl false))) nilS)
    (retS (andV (callM f_law_alike [] (consA (callM f_covers [] (consA (varM 6) nilA)) (consA (varM 7) nilA))) (callM f_law_alike [] (consA (callM f_covers [] (consA (tupM (consA (varM 3) (consA (tupM nilA) nilA))) nilA)) (consA (tupM nilA) nilA))))))))))))))))
def f_law : MF := defM 1 9 m_law
theorem n_law : ∀ (xs : List MV) (h : MH), (f_law xs h).isSome = true → xs.length = 1 := fun _ _ e => defM_len e
end
end Mi.k03
set_option maxHeartbeats 4000000
namespace Mi.k03
open PySem L2
structure Bx where
  b0 : Int
  b1 : Int
  b2 : Int
  b3 : Int
  b4 : Int
  cells : List Int
def bxO (b : Bx) : MO := .lst [.int b.b0, .int b.b1, .int b.b2, .int b.b3, .int b.b4, .fls (b.cells.map MV.int)]
/-- the box stands at l -/
def Box (h : MH) (l : Nat) : Prop := ∃ b, h[l]? = some (bxO b) ∧ 0 ≤ b.b2
abbrev Kp (l : Nat) (h h' : MH) : Prop := Keep (fun j => j = l) h h'
theorem keep_set {h : MH} {l : Nat} {o : MO} : Kp l h (h.set l o) := (Keep.refl h).set fun _ => rfl
theorem Box.lt {h : MH} {l : Nat} (p : Box h l) : l < h.length := by
  obtain ⟨r, e, a⟩ := p
  exact at_len e
theorem Box.keep {h h' : MH} {l : Nat} {P : Nat → Prop} (p : Box h l) (k : Keep P h h') (q : ¬ P l) : Box h' l := by
  obtain ⟨r, e, a⟩ := p
  exact ⟨r, k.get e q, a⟩
theorem Box.app {h : MH} {l : Nat} (p : Box h l) (os : List MO) : Box (h ++ os) l := p.keep (P := fun _ => False) (keeps os) fun z => z
theorem mix (a t : Int) : ∃ d, ∀ h, f_law_mix [.int a, .int t] h = ok (.int d) h := by
  obtain ⟨o, ho⟩ : ∃ o, (a * 48271 + t * 69621 + 12345) % 2147483647 = o := ⟨_, rfl⟩
  have b1 := Int.emod_nonneg (a * 48271 + t * 69621 + 12345) (b := 2147483647) (by omega)
  have b2 := Int.emod_lt_of_pos (a * 48271 + t * 69621 + 12345) (b := 2147483647) (by omega)
  rw [ho] at b1 b2
  have e1 : -18446744073709551616 < o := by omega
  have e2 : o < 18446744073709551616 := by omega
  refine ⟨?d, fun h => ?e⟩
  case e =>
    simp [f_law_mix, m_law_mix, mulOk, ho, e1, e2]
    rfl
noncomputable def q1 : MT := (ifS (andT (orT (tstM (opM eqF (opM ixF (varM 0) (cM (.int 0))) (cM (.int 0)))) (tstM (opM eqF (opM ixF (varM 0) (cM (.int 1))) (cM (.int 0))))) (tstM (opM ltF (opM ixF (varM 0) (cM (.int 2))) (bltM lenF (consA (opM ixF (varM 0) (cM (.int 5))) nilA))))) (seqS (setS 2 (opM ixF (opM ixF (varM 0) (cM (.int 5))) (opM ixF (varM 0) (cM (.int 2)))))
    (seqS (subS (opM addF (opM ixF (varM 0) (cM (.int 2))) (cM (.int 1))) (varM 0) (cM (.int 2)))
    (seqS (subS (opM modF (bltM intF (consA (opM addF (opM mulF (opM ixF (varM 0) (cM (.int 4))) (cM (.int 31))) (varM 2)) nilA)) (cM (.int 2147483647))) (varM 0) (cM (.int 4)))
    (seqS (subS (cM (.int 0)) (varM 0) (cM (.int 0)))
    (seqS (subS (cM (.int 60)) (varM 0) (cM (.int 1)))
    (ifS (tstM (opM eqF (opM modF (bltM intF (consA (varM 2) nilA)) (cM (.int 2))) (cM (.int 0)))) (subS (opM divF (bltM absF (consA (varM 2) nilA)) (cM (.int 2))) (varM 0) (cM (.int 0))) nilS)))))) nilS)
noncomputable def q2 : MT := (seqS (ifS (andT (tstM (opM gtF (opM ixF (varM 0) (cM (.int 0))) (cM (.int 0)))) (tstM (opM gtF (opM ixF (varM 0) (cM (.int 1))) (cM (.int 0))))) (seqS (setS 3 (opM modF (bltM intF (consA (opM ixF (varM 0) (cM (.int 0))) nilA)) (varM 1)))
    (seqS (subS (opM divF (opM ixF (varM 0) (cM (.int 0))) (varM 1)) (varM 0) (cM (.int 0)))
    (seqS (subS (opM subF (opM ixF (varM 0) (cM (.int 1))) (cM (.int 1))) (varM 0) (cM (.int 1)))
    (retS (varM 3))))) nilS)
    (seqS (subS (opM addF (opM ixF (varM 0) (cM (.int 3))) (cM (.int 1))) (varM 0) (cM (.int 3)))
    (retS (opM modF (bltM intF (consA (callM f_law_mix [] (consA (opM ixF (varM 0) (cM (.int 4))) (consA (opM ixF (varM 0) (cM (.int 3))) nilA))) nilA)) (varM 1)))))
theorem draw1 {h : MH} {l : Nat} (x1 : Option MV) (p : Box h l) : ∃ x2 h', q1 [some (.ref l), x1, none, none] h = some (.nx [some (.ref l), x1, x2, none] h') ∧ Box h' l ∧ Kp l h h' := by
  obtain ⟨⟨b0, b1, b2, b3, b4, cells⟩, e, h0⟩ := p
  simp only at h0
  have hl := at_len e
  have e2 : ∀ o, (h.set l o)[l]? = some o := fun o => List.getElem?_set_self hl
  unfold bxO at e
  simp only at e
  have fin : ∀ b : Bx, 0 ≤ b.b2 → Box (h.set l (bxO b)) l ∧ Kp l h (h.set l (bxO b)) := fun b q => ⟨⟨b, e2 _, q⟩, keep_set⟩
  have go : b2 < cells.length → ∃ x2 h', (seqS (setS 2 (opM ixF (opM ixF (varM 0) (cM (.int 5))) (opM ixF (varM 0) (cM (.int 2)))))
    (seqS (subS (opM addF (opM ixF (varM 0) (cM (.int 2))) (cM (.int 1))) (varM 0) (cM (.int 2)))
    (seqS (subS (opM modF (bltM intF (consA (opM addF (opM mulF (opM ixF (varM 0) (cM (.int 4))) (cM (.int 31))) (varM 2)) nilA)) (cM (.int 2147483647))) (varM 0) (cM (.int 4)))
    (seqS (subS (cM (.int 0)) (varM 0) (cM (.int 0)))
    (seqS (subS (cM (.int 60)) (varM 0) (cM (.int 1)))
    (ifS (tstM (opM eqF (opM modF (bltM intF (consA (varM 2) nilA)) (cM (.int 2))) (cM (.int 0)))) (subS (opM divF (bltM absF (consA (varM 2) nilA)) (cM (.int 2))) (varM 0) (cM (.int 0))) nilS)))))) [some (.ref l), x1, none, none] h = some (.nx [some (.ref l), x1, x2, none] h') ∧ Box h' l ∧ Kp l h h' := fun hb => by
    have hlt : b2.toNat < cells.length := by omega
    obtain ⟨cell, e3⟩ : ∃ c, cells[b2.toNat]'hlt = c := ⟨_, rfl⟩
    obtain ⟨ac, eac⟩ : ∃ ac : Int, (if cell < 0 then -cell else cell) = ac := ⟨_, rfl⟩
    by_cases c : cell % 2 = 0
    · refine ⟨some (.int cell), ?h1, ?e1, ?r1⟩
      case e1 =>
        simp [e, e2, atI, ixN, h0, hb, lim, eqB, e3, eac, c, List.set_set, mulOk]
        rfl
      case r1 => exact fin ⟨ac / 2, 60, b2 + 1, b3, (b4 * 31 + cell) % 2147483647, cells⟩ (by simp only; omega)
    · have c' : cell % 2 = 1 := by omega
      refine ⟨some (.int cell), ?h2, ?e2, ?r2⟩
      case e2 =>
        simp [e, e2, atI, ixN, h0, hb, lim, eqB, e3, eac, c', List.set_set, mulOk]
        rfl
      case r2 => exact fin ⟨0, 60, b2 + 1, b3, (b4 * 31 + cell) % 2147483647, cells⟩ (by simp only; omega)
  by_cases hb : b2 < cells.length
  · by_cases c0 : b0 = 0 ∨ b1 = 0
    · obtain ⟨x2, h', a, b⟩ := go hb
      refine ⟨x2, h', ?_, b⟩
      rw [← a]
      unfold q1
      by_cases c1 : b0 = 0
      · subst c1
        show bndS _ _ = _
        have : (andT (orT (tstM (opM eqF (opM ixF (varM 0) (cM (.int 0))) (cM (.int 0)))) (tstM (opM eqF (opM ixF (varM 0) (cM (.int 1))) (cM (.int 0))))) (tstM (opM ltF (opM ixF (varM 0) (cM (.int 2))) (bltM lenF (consA (opM ixF (varM 0) (cM (.int 5))) nilA))))) [some (.ref l), x1, none, none] h = ok true h := by simp [e, atI, ixN, eqB, hb]
        rw [this]
        rfl
      · have c2 : b1 = 0 := c0.resolve_left c1
        subst c2
        show bndS _ _ = _
        have : (andT (orT (tstM (opM eqF (opM ixF (varM 0) (cM (.int 0))) (cM (.int 0)))) (tstM (opM eqF (opM ixF (varM 0) (cM (.int 1))) (cM (.int 0))))) (tstM (opM ltF (opM ixF (varM 0) (cM (.int 2))) (bltM lenF (consA (opM ixF (varM 0) (cM (.int 5))) nilA))))) [some (.ref l), x1, none, none] h = ok true h := by simp [e, atI, ixN, eqB, hb, c1]
        rw [this]
        rfl
    · refine ⟨none, h, ?_, ⟨⟨b0, b1, b2, b3, b4, cells⟩, e, h0⟩, Keep.refl _⟩
      have c1 : ¬ b0 = 0 := fun z => c0 (.inl z)
      have c2 : ¬ b1 = 0 := fun z => c0 (.inr z)
      simp [q1, e, atI, ixN, eqB, c1, c2]
  · refine ⟨none, h, ?_, ⟨⟨b0, b1, b2, b3, b4, cells⟩, e, h0⟩, Keep.refl _⟩
    by_cases c1 : b0 = 0
    · simp [q1, e, atI, ixN, eqB, c1, hb]
    · by_cases c2 : b1 = 0
      · simp [q1, e, atI, ixN, eqB, c1, c2, hb]
      · simp [q1, e, atI, ixN, eqB, c1, c2, hb]
theorem draw {h : MH} {l m : Nat} (p : Box h l) (hm : 0 < m) (hm2 : m < 1000000) : ∃ (d : Nat) (h' : MH), f_law_draw [.ref l, .int (m : Int)] h = ok (.int (d : Int)) h' ∧ d < m ∧ Box h' l ∧ Kp l h h' := by
  obtain ⟨x2, h1, e1, p1, k1⟩ := draw1 (some (.int (m : Int))) p
  obtain ⟨⟨b0, b1, b2, b3, b4, cells⟩, e, h0⟩ := p1
  simp only at h0
  have hl := at_len e
  have e2 : ∀ o, (h1.set l o)[l]? = some o := fun o => List.getElem?_set_self hl
  have fin : ∀ b : Bx, 0 ≤ b.b2 → Box (h1.set l (bxO b)) l ∧ Kp l h (h1.set l (bxO b)) := fun b q => ⟨⟨b, e2 _, q⟩, k1.trans (keep_set.weak fun _ _ z => z)⟩
  unfold bxO at e
  simp only at e
  have hd : ∀ z : Int, ((z % (m : Int)).toNat : Int) = z % (m : Int) ∧ (z % (m : Int)).toNat < m := fun z => by
    have a := Int.emod_nonneg z (b := (m : Int)) (by omega)
    have b := Int.emod_lt_of_pos z (b := (m : Int)) (by omega)
    omega
  have hq : f_law_draw = defM 2 4 (seqS q1 q2) := rfl
  have m1 : (m : Int) < 1073741824 := by omega
  have m2 : m < 1073741824 := by omega
  by_cases c : 0 < b0 ∧ 0 < b1
  · obtain ⟨c0, c1⟩ := c
    refine ⟨(b0 % (m : Int)).toNat, ?h1, ?e1, (hd b0).2, ?r1⟩
    case e1 =>
      rw [(hd b0).1]
      rw [hq]
      simp [e1, q2, e, e2, atI, ixN, c0, c1, hm, m1, m2, lim, List.set_set]
      rfl
    case r1 => exact fin ⟨b0 / m, b1 - 1, b2, b3, b4, cells⟩ h0
  · obtain ⟨z, ez⟩ := mix b4 (b3 + 1)
    refine ⟨(z % (m : Int)).toNat, ?h2, ?e2, (hd z).2, ?r2⟩
    case e2 =>
      rw [(hd z).1]
      rw [hq]
      by_cases c0 : 0 < b0
      · have c1 : ¬ 0 < b1 := fun q => c ⟨c0, q⟩
        simp [e1, q2, e, e2, atI, ixN, c0, c1, hm, ez, lim]
        rfl
      · simp [e1, q2, e, e2, atI, ixN, c0, hm, ez, lim]
    case r2 => exact fin ⟨b0, b1, b2, b3 + 1, b4, cells⟩ h0
end Mi.k03
set_option maxHeartbeats 4000000
namespace Mi.k03
open PySem L2
/-! ### rising lists of pairs -/
def ltP (p q : Nat × Nat) : Prop := p.1 < q.1 ∨ (p.1 = q.1 ∧ p.2 < q.2)
theorem lt_irr {p : Nat × Nat} (h : ltP p p) : False := by
  unfold ltP at h
  omega
theorem ss_nd {l : List (Nat × Nat)} (h : l.Pairwise ltP) : l.Nodup := List.Pairwise.imp (S := (· ≠ ·)) (fun {a b} z e => by subst e; exact lt_irr z) h
theorem ss_ext : ∀ {l m : List (Nat × Nat)}, l.Pairwise ltP → m.Pairwise ltP → (∀ p, p ∈ l ↔ p ∈ m) → l = m
  | [], [], _, _, _ => rfl
  | [], y :: m, _, _, h => absurd ((h y).mpr (List.mem_cons_self ..)) (by simp)
  | x :: l, [], _, _, h => absurd ((h x).mp (List.mem_cons_self ..)) (by simp)
  | x :: l, y :: m, hl, hm, h => by
    obtain ⟨l1, l2⟩ := List.pairwise_cons.mp hl
    obtain ⟨m1, m2⟩ := List.pairwise_cons.mp hm
    have e : x = y := by
      rcases List.mem_cons.mp ((h x).mp (List.mem_cons_self ..)) with e | hx
      · exact e
      · rcases List.mem_cons.mp ((h y).mpr (List.mem_cons_self ..)) with e | hy
        · exact e.symm
        · have a := m1 x hx
          have b := l1 y hy
          unfold ltP at a b
          omega
    subst e
    rw [ss_ext l2 m2 fun p => ?_]
    have := h p
    rw [List.mem_cons, List.mem_cons] at this
    constructor
    · intro hp
      rcases this.mp (.inr hp) with e | z
      · exact absurd (e ▸ l1 p hp) lt_irr
      · exact z
    · intro hp
      rcases this.mpr (.inr hp) with e | z
      · exact absurd (e ▸ m1 p hp) lt_irr
      · exact z
def PS (n : Nat) (R : Nat → Nat → Bool) : List (Nat × Nat) := (List.range n).flatMap fun x => ((List.range n).filter (R x)).map fun y => (x, y)
theorem PS_mem {n : Nat} {R : Nat → Nat → Bool} {p : Nat × Nat} : p ∈ PS n R ↔ p.1 < n ∧ p.2 < n ∧ R p.1 p.2 = true := by
  obtain ⟨a, b⟩ := p
  unfold PS
  rw [List.mem_flatMap]
  constructor
  · rintro ⟨x, hx, z⟩
    obtain ⟨y, hy, e⟩ := List.mem_map.mp z
    obtain ⟨y1, y2⟩ := List.mem_filter.mp hy
    cases e
    exact ⟨List.mem_range.mp hx, List.mem_range.mp y1, y2⟩
  · rintro ⟨h1, h2, h3⟩
    exact ⟨a, List.mem_range.mpr h1, List.mem_map.mpr ⟨b, List.mem_filter.mpr ⟨List.mem_range.mpr h2, h3⟩, rfl⟩⟩
theorem PS_ss {n : Nat} {R : Nat → Nat → Bool} : (PS n R).Pairwise ltP := by
  unfold PS
  rw [List.pairwise_flatMap]
  refine ⟨fun x hx => ?_, ?_⟩
  · rw [List.pairwise_map]
    exact (List.pairwise_lt_range (n := n)).filter _ |>.imp fun h => .inr ⟨rfl, h⟩
  · refine (List.pairwise_lt_range (n := n)).imp fun h p hp q hq => ?_
    obtain ⟨_, _, e1⟩ := List.mem_map.mp hp
    obtain ⟨_, _, e2⟩ := List.mem_map.mp hq
    rw [← e1, ← e2]
    exact .inl h
theorem PS_congr {n : Nat} {R S : Nat → Nat → Bool} (h : ∀ x y, x < n → y < n → R x y = S x y) : PS n R = PS n S := ss_ext PS_ss PS_ss fun p => by
  rw [PS_mem, PS_mem]
  constructor
  · rintro ⟨a, b, c⟩
    exact ⟨a, b, by rw [← h _ _ a b]; exact c⟩
  · rintro ⟨a, b, c⟩
    exact ⟨a, b, by rw [h _ _ a b]; exact c⟩
theorem PS_len {n : Nat} {R : Nat → Nat → Bool} : (PS n R).length ≤ n * n := by
  unfold PS
  rw [List.length_flatMap]
  have : ∀ l : List Nat, (l.map fun x => (((List.range n).filter (R x)).map fun y => (x, y)).length).sum ≤ l.length * n := by
    intro l
    induction l with
    | nil => simp
    | cons a l ih =>
      rw [List.map_cons, List.sum_cons, List.length_cons, Nat.succ_mul]
      have : (((List.range n).filter (R a)).map fun y => (a, y)).length ≤ n := by
        rw [List.length_map]
        exact Nat.le_trans (List.length_filter_le _ _) (by simp)
      omega
  have := this (List.range n)
  rw [List.length_range] at this
  exact this
def cst (p : Nat × Nat) : Int × Int := ((p.1 : Int), (p.2 : Int))
def prV (p : Nat × Nat) : MV := .tup [.int (p.1 : Int), .int (p.2 : Int)]
def ord (n : Nat) (R : Nat → Nat → Bool) : MV := .tup [.int (n : Int), .tup ((PS n R).map prV)]
def flp (R : Nat → Nat → Bool) : Nat → Nat → Bool := fun x y => R y x
theorem ss_le {l : List (Nat × Nat)} (h : l.Pairwise ltP) : (l.map cst).Pairwise (fun a b => leP a b = true) := by
  rw [List.pairwise_map]
  refine h.imp fun {a b} z => ?_
  rw [leP_iff]
  unfold ltP at z
  unfold cst
  simp only
  omega
theorem cst_inj {p q : Nat × Nat} (h : cst p = cst q) : p = q := by
  unfold cst at h
  obtain ⟨a, b⟩ := Prod.mk.injEq .. ▸ h
  exact Prod.ext (by omega) (by omega)
/-- sorted, the pairs turned round -/
theorem srt_flip {n : Nat} {R : Nat → Nat → Bool} : srtB leP ((PS n R).map fun p => cst (p.2, p.1)) = (PS n (flp R)).map cst := by
  refine srt_uniq leP_anti (fun a => by rw [leP_iff]; omega) (srtB_srt leP_tot leP_tr _) (ss_le PS_ss) ((srtB_perm _).trans ?_)
  have e : ((PS n R).map fun p => cst (p.2, p.1)) = ((PS n R).map fun p => (p.2, p.1)).map cst := by rw [List.map_map]; rfl
  rw [e]
  refine List.Perm.map _ ((List.perm_ext_iff_of_nodup ?_ (ss_nd PS_ss)).mpr fun p => ?_)
  · refine List.Pairwise.map _ (S := (· ≠ ·)) (fun a b h z => h ?_) (ss_nd PS_ss)
    exact Prod.ext (congrArg Prod.snd z) (congrArg Prod.fst z)
  · rw [List.mem_map, PS_mem]
    constructor
    · rintro ⟨q, hq, e⟩
      rw [PS_mem] at hq
      rw [← e]
      exact ⟨hq.2.1, hq.1, hq.2.2⟩
    · rintro ⟨a, b, c⟩
      exact ⟨(p.2, p.1), PS_mem.mpr ⟨b, a, c⟩, rfl⟩
/-- g names k points of n, rising -/
structure Pt (n k : Nat) (g : Nat → Nat) : Prop where
  lt : ∀ i, i < k → g i < n
  up : ∀ i j, i < j → j < k → g i < g j
theorem Pt.inj {n k : Nat} {g : Nat → Nat} (p : Pt n k g) {i j : Nat} (hi : i < k) (hj : j < k) (e : g i = g j) : i = j := by
  rcases Nat.lt_trichotomy i j with h | h | h
  · have := p.up i j h hj
    omega
  · exact h
  · have := p.up j i h hi
    omega
theorem Pt.iff {n k : Nat} {g : Nat → Nat} (p : Pt n k g) {i j : Nat} (hi : i < k) (hj : j < k) : g i < g j ↔ i < j := by
  constructor
  · intro h
    rcases Nat.lt_trichotomy i j with a | a | a
    · exact a
    · subst a
      omega
    · have := p.up j i a hi
      omega
  · exact fun h => p.up i j h hj
theorem Pt.le {n k : Nat} {g : Nat → Nat} (p : Pt n k g) : k ≤ n := by
  have : ∀ i, i < k → i ≤ g i := by
    intro i
    induction i with
    | zero => intro _; omega
    | succ i ih =>
      intro h
      have a := ih (by omega)
      have b := p.up i (i + 1) (by omega) h
      omega
  rcases Nat.eq_zero_or_pos k with h | h
  · omega
  · have a := this (k - 1) (by omega)
    have b := p.lt (k - 1) (by omega)
    omega
theorem Pt.comp {n k m : Nat} {g s : Nat → Nat} (p : Pt n k g) (q : Pt k m s) : Pt n m fun i => g (s i) := ⟨fun i hi => p.lt _ (q.lt i hi), fun i j hij hj => p.up _ _ (q.up i j hij hj) (q.lt j hj)⟩
/-- what an induced order's pairs are: f tells the place of a point -/
theorem ind_eq {n k : Nat} {R : Nat → Nat → Bool} {g : Nat → Nat} (p : Pt n k g) (f : Nat → Option Nat) (hf : ∀ x i, f x = some i ↔ i < k ∧ g i = x) :
    ((PS n R).filter fun q => (f q.1).isSome && (f q.2).isSome).map (fun q => ((f q.1).getD 0, (f q.2).getD 0)) = PS k fun i j => R (g i) (g j) := by
  refine ss_ext ?_ PS_ss fun q => ?_
  · rw [List.pairwise_map]
    have : ((PS n R).filter fun q => (f q.1).isSome && (f q.2).isSome).Pairwise fun a b => ltP a b ∧ (f a.1).isSome ∧ (f a.2).isSome ∧ (f b.1).isSome ∧ (f b.2).isSome := by
      rw [List.pairwise_filter]
      refine PS_ss.imp fun h ha hb => ?_
      rw [Bool.and_eq_true] at ha hb
      exact ⟨h, ha.1, ha.2, hb.1, hb.2⟩
    refine this.imp fun {a b} ⟨h, a1, a2, b1, b2⟩ => ?_
    obtain ⟨i1, e1⟩ := Option.isSome_iff_exists.mp a1
    obtain ⟨i2, e2⟩ := Option.isSome_iff_exists.mp a2
    obtain ⟨j1, e3⟩ := Option.isSome_iff_exists.mp b1
    obtain ⟨j2, e4⟩ := Option.isSome_iff_exists.mp b2
    rw [e1, e2, e3, e4]
    obtain ⟨l1, g1⟩ := (hf _ _).mp e1
    obtain ⟨l2, g2⟩ := (hf _ _).mp e2
    obtain ⟨l3, g3⟩ := (hf _ _).mp e3
    obtain ⟨l4, g4⟩ := (hf _ _).mp e4
    rcases h with h | ⟨h, h'⟩
    · rw [← g1, ← g3] at h
      exact .inl ((p.iff l1 l3).mp h)
    · rw [← g1, ← g3] at h
      rw [← g2, ← g4] at h'
      exact .inr ⟨p.inj l1 l3 h, (p.iff l2 l4).mp h'⟩
  · rw [List.mem_map, PS_mem]
    constructor
    · rintro ⟨a, ha, e⟩
      obtain ⟨h1, h2⟩ := List.mem_filter.mp ha
      rw [PS_mem] at h1
      rw [Bool.and_eq_true] at h2
      obtain ⟨i1, e1⟩ := Option.isSome_iff_exists.mp h2.1
      obtain ⟨i2, e2⟩ := Option.isSome_iff_exists.mp h2.2
      rw [e1, e2] at e
      obtain ⟨l1, g1⟩ := (hf _ _).mp e1
      obtain ⟨l2, g2⟩ := (hf _ _).mp e2
      rw [← e]
      refine ⟨l1, l2, ?_⟩
      show R (g i1) (g i2) = true
      rw [g1, g2]
      exact h1.2.2
    · rintro ⟨a, b, c⟩
      have e1 : f (g q.1) = some q.1 := (hf _ _).mpr ⟨a, rfl⟩
      have e2 : f (g q.2) = some q.2 := (hf _ _).mpr ⟨b, rfl⟩
      refine ⟨(g q.1, g q.2), List.mem_filter.mpr ⟨PS_mem.mpr ⟨p.lt _ a, p.lt _ b, c⟩, ?_⟩, ?_⟩
      · rw [e1, e2]
        rfl
      · rw [e1, e2]
        rfl
end Mi.k03
set_option maxHeartbeats 4000000
namespace Mi.k03
open PySem L2
theorem prs_pairs : ∀ {l : List (Nat × Nat)}, pairsOf (l.map prV) = some (l.map cst)
  | [] => rfl
  | x :: l => by
    rw [List.map_cons, List.map_cons]
    unfold pairsOf
    rw [prs_pairs (l := l)]
    rfl
theorem PS_lim {n : Nat} {R : Nat → Nat → Bool} (hn : n ≤ 64) : (PS n R).length ≤ 4096 := Nat.le_trans PS_len (Nat.mul_le_mul hn hn)
/-! ### what is alike -/
def Al : Nat → MV → Prop
  | 0, _ => False
  | _ + 1, .int _ => True
  | _ + 1, .bl _ => True
  | _ + 1, .non => True
  | k + 1, .tup xs => xs.length ≤ 100000 ∧ ∀ x ∈ xs, Al k x
  | k + 1, .fls xs => xs.length ≤ 100000 ∧ ∀ x ∈ xs, Al k x
  | _ + 1, _ => False
theorem alike : ∀ {k : Nat} {x : MV} {h : MH}, Al k x → fr_law_alike k [x, x] h = ok (.bl true) h
  | 0, _, _, a => a.elim
  | k + 1, x, h, a => by
    show defM 2 3 (m_law_alike (fr_law_alike k)) [x, x] h = _
    have loop : ∀ (x : MV) (xs : List MV), (x = .tup xs ∨ x = .fls xs) → xs.length ≤ 100000 → (∀ y ∈ xs, Al k y) → ∃ x2, forS (turnM (one 2) (ifS (notT (truM (callM (fr_law_alike k) [] (consA (opM ixF (varM 0) (varM 2)) (consA (opM ixF (varM 1) (varM 2)) nilA))))) (retS (cM (.bl false))) nilS)) (runOf 0 xs.length) [some x, some x, none] h = some (.nx [some x, some x, x2] h) := fun x xs hx hl hy => by
      obtain ⟨s', h', e, x2, e1, e2⟩ := for_run (g := one 2) (m := ifS (notT (truM (callM (fr_law_alike k) [] (consA (opM ixF (varM 0) (varM 2)) (consA (opM ixF (varM 1) (varM 2)) nilA))))) (retS (cM (.bl false))) nilS) (a := 0) (n := xs.length) (s := [some x, some x, none]) (h := h)
        (fun i s g => ∃ x2, s = [some x, some x, x2] ∧ g = h) ⟨none, rfl, rfl⟩ fun i s g hi ⟨x2, hs, hg⟩ => by
          subst hs
          subst hg
          obtain ⟨y, ey⟩ : ∃ y, xs[i]? = some y := ⟨_, List.getElem?_eq_getElem hi⟩
          have e1 := alike (h := g) (hy y (List.mem_of_getElem? ey))
          refine ⟨[some x, some x, some (.int (i : Int))], g, .inl ?_, _, rfl, rfl⟩
          rcases hx with z | z <;> subst z <;> simp [atI_nat ey, e1]
      subst e1
      subst e2
      exact ⟨x2, e⟩
    cases x <;> first | exact a.elim | skip
    · simp [m_law_alike, Ty.le, eqB]
    · simp [m_law_alike, Ty.le, eqB]
    · simp [m_law_alike, Ty.le, eqB]
    · rename_i xs
      obtain ⟨a1, a2⟩ := a
      obtain ⟨x2, e⟩ := loop (.tup xs) xs (.inl rfl) a1 a2
      have q : (xs.length : Int) ≤ 1000000 := by omega
      have q' : (-1000000 : Int) ≤ xs.length := by omega
      simp [m_law_alike, Ty.le, eqB, q, q', e]
    · rename_i xs
      obtain ⟨a1, a2⟩ := a
      obtain ⟨x2, e⟩ := loop (.fls xs) xs (.inr rfl) a1 a2
      have q : (xs.length : Int) ≤ 1000000 := by omega
      have q' : (-1000000 : Int) ≤ xs.length := by omega
      simp [m_law_alike, Ty.le, eqB, q, q', e]
theorem al_ord {n k : Nat} {R : Nat → Nat → Bool} (hn : n ≤ 64) : Al (k + 4) (ord n R) := by
  refine ⟨by show 2 ≤ 100000; omega, fun x hx => ?_⟩
  rcases List.mem_cons.mp hx with e | hx
  · subst e
    exact trivial
  · obtain rfl := List.mem_singleton.mp hx
    refine ⟨?_, fun y hy => ?_⟩
    · rw [List.length_map]
      have := PS_lim (R := R) hn
      omega
    · obtain ⟨p, _, e⟩ := List.mem_map.mp hy
      subst e
      refine ⟨by show 2 ≤ 100000; omega, fun z hz => ?_⟩
      rcases List.mem_cons.mp hz with e | hz
      · subst e
        exact trivial
      · obtain rfl := List.mem_singleton.mp hz
        exact trivial
theorem alike_ord {n : Nat} {R : Nat → Nat → Bool} {h : MH} (hn : n ≤ 64) : f_law_alike [ord n R, ord n R] h = ok (.bl true) h := alike (k := 5) (al_ord (k := 1) hn)
theorem alike_two {n m : Nat} {R S : Nat → Nat → Bool} {h : MH} (hn : n ≤ 64) (hm : m ≤ 64) : f_law_alike [.fls [ord n R, ord m S], .fls [ord n R, ord m S]] h = ok (.bl true) h := alike (k := 5) ⟨by show 2 ≤ 100000; omega, fun x hx => by
  rcases List.mem_cons.mp hx with e | hx
  · subst e
    exact al_ord (k := 0) hn
  · obtain rfl := List.mem_singleton.mp hx
    exact al_ord (k := 0) hm⟩
end Mi.k03
set_option maxHeartbeats 4000000
namespace Mi.k03
open PySem L2
def PSk (k n : Nat) (R : Nat → Nat → Bool) : List (Nat × Nat) := (List.range k).flatMap fun x => ((List.range n).filter (R x)).map fun y => (x, y)
theorem PSk_succ {k n : Nat} {R : Nat → Nat → Bool} : PSk (k + 1) n R = PSk k n R ++ ((List.range n).filter (R k)).map fun y => (k, y) := by
  unfold PSk
  rw [List.range_succ, List.flatMap_append]
  simp
theorem PSk_len {n : Nat} {R : Nat → Nat → Bool} : ∀ {k : Nat}, (PSk k n R).length ≤ k * n
  | 0 => by simp [PSk]
  | k + 1 => by
    have h : (((List.range n).filter (R k)).map fun y => (k, y)).length ≤ n := by
      rw [List.length_map]
      exact Nat.le_trans (List.length_filter_le _ _) (by simp)
    have ih := PSk_len (n := n) (R := R) (k := k)
    rw [PSk_succ, List.length_append, Nat.succ_mul]
    omega
noncomputable def d1 : MT := setS 1 (flsM (catL (varM 1) (flsM (lcM (rng1 (consA (bltM lenF (consA (varM 0) nilA)) nilA)) [3] (one 3) (truM (opM ixF (opM ixF (varM 0) (varM 3)) (varM 2))) (tupM (consA (varM 2) (consA (varM 3) nilA)))))))
theorem pairs {h : MH} {n : Nat} {f : Nat → Nat → Bool} (hn : n ≤ 64) : f_law_pairs [matV n n f] h = ok (.tup ((PS n (flp f)).map prV)) h := by
  have q : (n : Int) ≤ 1000000 := by omega
  have q' : (-1000000 : Int) ≤ n := by omega
  obtain ⟨s, g, e, hg, x2, hs⟩ := for_run (g := one 2) (m := d1) (a := 0) (n := n) (s := [some (matV n n f), some (.fls []), none, none]) (h := h)
    (fun k s g => g = h ∧ ∃ x2, s = [some (matV n n f), some (.fls ((PSk k n (flp f)).map prV)), x2, none]) ⟨rfl, none, rfl⟩ fun k s g hk ⟨hg, x2, hs⟩ => by
      subst hs
      subst hg
      have e := lc_run (g := one 3) (cd := truM (opM ixF (opM ixF (varM 0) (varM 3)) (varM 2))) (el := tupM (consA (varM 2) (consA (varM 3) nilA))) (s0 := [some (matV n n f), some (.fls ((PSk k n (flp f)).map prV)), some (.int (k : Int)), none]) (h := g) (n := n) (flp f k) (fun j => prV (k, j)) (by unfold lim; omega) fun j hj => by
        refine ⟨_, rfl, ?_, fun _ => ?_⟩
        · have b1 := atI_nat (tb_get (F := fun x => MV.fls (tb n fun y => .bl (f x y))) hj)
          have b2 := atI_nat (tb_get (F := fun y => MV.bl (f j y)) hk)
          simp [matV, b1, b2, flp]
        · simp [prV, lim]
      have l1 : ((List.range n).filter (flp f k)).length ≤ n := Nat.le_trans (List.length_filter_le _ _) (by simp)
      have l2 := PSk_len (n := n) (R := flp f) (k := k)
      have l3 : k * n ≤ 64 * 64 := Nat.mul_le_mul (by omega) hn
      have l4 : (PSk k n (flp f)).length + ((List.range n).filter (flp f k)).length ≤ lim := by unfold lim; omega
      have e6 : (PSk (k + 1) n (flp f)).map prV = (PSk k n (flp f)).map prV ++ ((List.range n).filter (flp f k)).map fun j => prV (k, j) := by
        rw [PSk_succ, List.map_append, List.map_map]
        rfl
      refine ⟨[some (matV n n f), some (.fls ((PSk (k + 1) n (flp f)).map prV)), some (.int (k : Int)), none], g, .inl ?_, rfl, _, rfl⟩
      rw [e6]
      unfold matV at e ⊢
      simp [d1, q, q', wipeM, e, l4]
  subst hg
  subst hs
  unfold d1 at e
  unfold matV at e ⊢
  have e7 : (PSk n n (flp f)).map prV = (PS n (flp f)).map prV := rfl
  rw [e7] at e
  simp [f_law_pairs, m_law_pairs, q, q', e]
/-- the list of points that g names -/
def ptV (k : Nat) (g : Nat → Nat) : List MV := tb k fun i => .int (g i : Int)
end Mi.k03
set_option maxHeartbeats 4000000
namespace Mi.k03
open PySem L2
theorem bitNot_not (a : Nat) : (Builtin.bitNot (Builtin.bitNot (a : Int))) = (a : Int) := by
  unfold Builtin.bitNot
  omega
theorem bitOr_nat (a b : Nat) : Builtin.bitOr (a : Int) (b : Int) = ((a ||| b : Nat) : Int) := by
  have na : ∀ a : Nat, ¬ (0 ≤ Builtin.bitNot (a : Int)) := fun a => by
    unfold Builtin.bitNot
    omega
  unfold Builtin.bitOr Builtin.bitAnd
  simp only [decide_eq_false (na a), decide_eq_false (na b), bitNot_not, Int.toNat_natCast]
/-- the masks gathered from the first k pairs: bit of each pair at place i -/
structure Mk (n : Nat) (P : List (Nat × Nat)) (ix bt : Nat × Nat → Nat) (k : Nat) (M : Nat → Nat) : Prop where
  bit : ∀ i j, i < n → ((M i).testBit j = true ↔ ∃ q ∈ P.take k, ix q = i ∧ bt q = j)
theorem Mk.step {n : Nat} {P : List (Nat × Nat)} {ix bt : Nat × Nat → Nat} {k : Nat} {M : Nat → Nat} {q : Nat × Nat} (m : Mk n P ix bt k M) (e : P[k]? = some q) : Mk n P ix bt (k + 1) fun i => if i = ix q then M i ||| 2 ^ bt q else M i := ⟨fun i j hi => by
  rw [List.take_add_one, e, Option.toList_some]
  have b := m.bit i j hi
  by_cases c : i = ix q
  · simp only [if_pos c]
    rw [Nat.testBit_or, Bool.or_eq_true, b, Nat.testBit_two_pow, decide_eq_true_iff]
    constructor
    · rintro (⟨p, hp, h1, h2⟩ | h)
      · exact ⟨p, List.mem_append_left _ hp, h1, h2⟩
      · exact ⟨q, List.mem_append_right _ (List.mem_singleton.mpr rfl), c.symm, h⟩
    · rintro ⟨p, hp, h1, h2⟩
      rcases List.mem_append.mp hp with z | z
      · exact .inl ⟨p, z, h1, h2⟩
      · rw [List.mem_singleton.mp z] at h2
        exact .inr h2
  · simp only [if_neg c]
    rw [b]
    constructor
    · rintro ⟨p, hp, h1, h2⟩
      exact ⟨p, List.mem_append_left _ hp, h1, h2⟩
    · rintro ⟨p, hp, h1, h2⟩
      rcases List.mem_append.mp hp with z | z
      · exact ⟨p, z, h1, h2⟩
      · rw [List.mem_singleton.mp z] at h1
        exact absurd h1.symm c⟩
noncomputable def ml : MT := subS (opM orF (opM ixF (varM 3) (varM 5)) (opM shlF (cM (.int 1)) (varM 4))) (varM 3) (varM 5)
noncomputable def mh : MT := subS (opM orF (opM ixF (varM 3) (varM 4)) (opM shlF (cM (.int 1)) (varM 5))) (varM 3) (varM 4)
def mV (n : Nat) (M : Nat → Nat) : List MV := tb n fun i => .int (M i : Int)
theorem mV_set {n y v : Nat} {M : Nat → Nat} : (mV n M).set y (.int (v : Int)) = mV n fun i => if i = y then v else M i := by
  unfold mV
  rw [tb_set]
  refine tb_congr fun i _ => ?_
  by_cases c : i = y <;> simp [c]
theorem rep0 {n : Nat} {s : MS} {h : MH} (hn : n ≤ 64) (hs : slot s 1 = some (.int (n : Int))) : (repL (flsM (lstM (consA (cM (.int 0)) nilA))) (varM 1)) s h = ok (mV n fun _ => 0) h := by
  have l1 : 1 ≤ lim := by unfold lim; omega
  have q : (n : Int) ≤ 1000000 := by omega
  have q' : (-1000000 : Int) ≤ n := by omega
  have q3 : n ≤ lim := by unfold lim; omega
  have fl : (List.replicate n [MV.int 0]).flatten = mV n fun _ => 0 := by
    unfold mV tb
    simp
    exact (List.eq_replicate_iff.mpr ⟨by simp, fun b hb => by simp at hb; exact hb.2.symm⟩).symm
  simp [hs, l1, q, q', q3, fl]
theorem low_masksL {h : MH} {n : Nat} {P : List (Nat × Nat)} (hn : n ≤ 64) (hP : ∀ p ∈ P, p.1 < n ∧ p.2 < n) : ∃ M h', f_low_masks [.tup [.int (n : Int), .tup (P.map prV)]] h = ok (.tup (mV n M)) h' ∧ (∀ i j, i < n → ((M i).testBit j = true ↔ (j, i) ∈ P)) ∧ Keep (fun _ => False) h h' := by
  have r0 : (repL (flsM (lstM (consA (cM (.int 0)) nilA))) (varM 1)) [some (.tup [.int (n : Int), .tup (P.map prV)]), some (.int (n : Int)), some (.tup (P.map prV)), none, none, none] h = ok (mV n fun _ => 0) h := rep0 hn rfl
  obtain ⟨s', h', e, x4, x5, M, hs, e1, mk, kp⟩ := forS_ok (bd := turnM (unp [4, 5]) ml) (fun k s g => ∃ x4 x5 M, s = [some (.tup [.int (n : Int), .tup (P.map prV)]), some (.int (n : Int)), some (.tup (P.map prV)), some (.ref h.length), x4, x5] ∧ g[h.length]? = some (.lst (mV n M)) ∧ Mk n P (·.2) (·.1) k M ∧ Keep (fun _ => False) h g) (xs := P.map prV) (i0 := 0) (s := [some (.tup [.int (n : Int), .tup (P.map prV)]), some (.int (n : Int)), some (.tup (P.map prV)), some (.ref h.length), none, none]) (h := h ++ [.lst (mV n fun _ => 0)])
    (fun k x s g hx ⟨x4, x5, M, hs, e1, mk, kp⟩ => by
      subst hs
      rw [Nat.zero_add] at mk ⊢
      rw [List.getElem?_map] at hx
      obtain ⟨q, eq, ex⟩ := Option.map_eq_some_iff.mp hx
      subst ex
      have mq := hP _ (List.mem_of_getElem? eq)
      have a1 := atI_nat (tb_get (F := fun i => MV.int (M i : Int)) mq.2)
      have po : powOk 1 (q.1 : Int) := ⟨by omega, by omega, by decide⟩
      have ii : ixN n (q.2 : Int) = some q.2 := ixN_nat mq.2
      have ll : (mV n M).length = n := tb_len
      obtain ⟨t, et, ht⟩ : ∃ t : Nat, 2 ^ q.1 = t ∧ (2 : Int) ^ q.1 = (t : Int) := ⟨2 ^ q.1, rfl, by simp⟩
      have se := mV_set (n := n) (y := q.2) (v := M q.2 ||| t) (M := M)
      refine ⟨[some (.tup [.int (n : Int), .tup (P.map prV)]), some (.int (n : Int)), some (.tup (P.map prV)), some (.ref h.length), some (.int (q.1 : Int)), some (.int (q.2 : Int))], g.set h.length (.lst (mV n fun i => if i = q.2 then M q.2 ||| t else M i)), .inl ?_, _, _, _, rfl, get_set e1, ?_, kp.set fun z => absurd z (by omega)⟩
      · unfold mV at a1
        have a1' : atI (mV n M) (q.2 : Int) = some (.int (M q.2 : Int)) := a1
        simp only [turnM, prV, unp, putAll]
        simp [ml, e1, a1', po, ht, bitOr_nat, ll, ii, se]
      · have z := mk.step eq
        refine ⟨fun i j hi => ?_⟩
        rw [← z.bit i j hi, ← et]
        by_cases c : i = q.2 <;> simp [c]) ⟨none, none, fun _ => 0, rfl, get_app, ⟨fun i j _ => by simp⟩, keeps _⟩
  subst hs
  have el : (P.map prV).length = P.length := List.length_map ..
  rw [Nat.zero_add, el] at mk
  refine ⟨M, h', ?_, fun i j hi => ?_, kp⟩
  · unfold ml at e
    obtain ⟨r, hr⟩ : ∃ r : MM (List MV), (repL (flsM (lstM (consA (cM (.int 0)) nilA))) (varM 1)) = r := ⟨_, rfl⟩
    rw [hr] at r0
    have hm : f_low_masks = defM 1 6 (seqS (asgS (unp [1, 2]) (varM 0)) (seqS (setS 3 (refM r)) (seqS (forM (seqI (varM 2)) (unp [4, 5]) (subS (opM orF (opM ixF (varM 3) (varM 5)) (opM shlF (cM (.int 1)) (varM 4))) (varM 3) (varM 5))) (retS (bltM tupF (consA (varM 3) nilA)))))) := by
      rw [← hr]
      rfl
    rw [hm]
    simp [r0, e, e1]
  · rw [mk.bit i j hi, List.take_length]
    constructor
    · rintro ⟨q, hq, h1, h2⟩
      rw [← h1, ← h2]
      exact hq
    · intro h1
      exact ⟨(j, i), h1, rfl, rfl⟩
theorem high_masksL {h : MH} {n : Nat} {P : List (Nat × Nat)} (hn : n ≤ 64) (hP : ∀ p ∈ P, p.1 < n ∧ p.2 < n) : ∃ M h', f_high_masks [.tup [.int (n : Int), .tup (P.map prV)]] h = ok (.tup (mV n M)) h' ∧ (∀ i j, i < n → ((M i).testBit j = true ↔ (i, j) ∈ P)) ∧ Keep (fun _ => False) h h' := by
  have r0 : (repL (flsM (lstM (consA (cM (.int 0)) nilA))) (varM 1)) [some (.tup [.int (n : Int), .tup (P.map prV)]), some (.int (n : Int)), some (.tup (P.map prV)), none, none, none] h = ok (mV n fun _ => 0) h := rep0 hn rfl
  obtain ⟨s', h', e, x4, x5, M, hs, e1, mk, kp⟩ := forS_ok (bd := turnM (unp [4, 5]) mh) (fun k s g => ∃ x4 x5 M, s = [some (.tup [.int (n : Int), .tup (P.map prV)]), some (.int (n : Int)), some (.tup (P.map prV)), some (.ref h.length), x4, x5] ∧ g[h.length]? = some (.lst (mV n M)) ∧ Mk n P (·.1) (·.2) k M ∧ Keep (fun _ => False) h g) (xs := P.map prV) (i0 := 0) (s := [some (.tup [.int (n : Int), .tup (P.map prV)]), some (.int (n : Int)), some (.tup (P.map prV)), some (.ref h.length), none, none]) (h := h ++ [.lst (mV n fun _ => 0)])
    (fun k x s g hx ⟨x4, x5, M, hs, e1, mk, kp⟩ => by
      subst hs
      rw [Nat.zero_add] at mk ⊢
      rw [List.getElem?_map] at hx
      obtain ⟨q, eq, ex⟩ := Option.map_eq_some_iff.mp hx
      subst ex
      have mq := hP _ (List.mem_of_getElem? eq)
      have a1 := atI_nat (tb_get (F := fun i => MV.int (M i : Int)) mq.1)
      have po : powOk 1 (q.2 : Int) := ⟨by omega, by omega, by decide⟩
      have ii : ixN n (q.1 : Int) = some q.1 := ixN_nat mq.1
      have ll : (mV n M).length = n := tb_len
      obtain ⟨t, et, ht⟩ : ∃ t : Nat, 2 ^ q.2 = t ∧ (2 : Int) ^ q.2 = (t : Int) := ⟨2 ^ q.2, rfl, by simp⟩
      have se := mV_set (n := n) (y := q.1) (v := M q.1 ||| t) (M := M)
      refine ⟨[some (.tup [.int (n : Int), .tup (P.map prV)]), some (.int (n : Int)), some (.tup (P.map prV)), some (.ref h.length), some (.int (q.1 : Int)), some (.int (q.2 : Int))], g.set h.length (.lst (mV n fun i => if i = q.1 then M q.1 ||| t else M i)), .inl ?_, _, _, _, rfl, get_set e1, ?_, kp.set fun z => absurd z (by omega)⟩
      · unfold mV at a1
        have a1' : atI (mV n M) (q.1 : Int) = some (.int (M q.1 : Int)) := a1
        simp only [turnM, prV, unp, putAll]
        simp [mh, e1, a1', po, ht, bitOr_nat, ll, ii, se]
      · have z := mk.step eq
        refine ⟨fun i j hi => ?_⟩
        rw [← z.bit i j hi, ← et]
        by_cases c : i = q.1 <;> simp [c]) ⟨none, none, fun _ => 0, rfl, get_app, ⟨fun i j _ => by simp⟩, keeps _⟩
  subst hs
  have el : (P.map prV).length = P.length := List.length_map ..
  rw [Nat.zero_add, el] at mk
  refine ⟨M, h', ?_, fun i j hi => ?_, kp⟩
  · unfold mh at e
    obtain ⟨r, hr⟩ : ∃ r : MM (List MV), (repL (flsM (lstM (consA (cM (.int 0)) nilA))) (varM 1)) = r := ⟨_, rfl⟩
    rw [hr] at r0
    have hm : f_high_masks = defM 1 6 (seqS (asgS (unp [1, 2]) (varM 0)) (seqS (setS 3 (refM r)) (seqS (forM (seqI (varM 2)) (unp [4, 5]) (subS (opM orF (opM ixF (varM 3) (varM 4)) (opM shlF (cM (.int 1)) (varM 5))) (varM 3) (varM 4))) (retS (bltM tupF (consA (varM 3) nilA)))))) := by
      rw [← hr]
      rfl
    rw [hm]
    simp [r0, e, e1]
  · rw [mk.bit i j hi, List.take_length]
    constructor
    · rintro ⟨q, hq, h1, h2⟩
      rw [← h1, ← h2]
      exact hq
    · intro h1
      exact ⟨(i, j), h1, rfl, rfl⟩
theorem low_masks_ {h : MH} {n : Nat} {R : Nat → Nat → Bool} (hn : n ≤ 64) : ∃ M h', f_low_masks [ord n R] h = ok (.tup (mV n M)) h' ∧ (∀ i j, i < n → ((M i).testBit j = true ↔ j < n ∧ R j i = true)) ∧ Keep (fun _ => False) h h' := by
  obtain ⟨M, h', e, b, k⟩ := low_masksL (h := h) (P := PS n R) hn fun p hp => ⟨(PS_mem.mp hp).1, (PS_mem.mp hp).2.1⟩
  refine ⟨M, h', e, fun i j hi => ?_, k⟩
  rw [b i j hi, PS_mem]
  exact ⟨fun z => ⟨z.1, z.2.2⟩, fun z => ⟨z.1, hi, z.2⟩⟩
theorem high_masks_ {h : MH} {n : Nat} {R : Nat → Nat → Bool} (hn : n ≤ 64) : ∃ M h', f_high_masks [ord n R] h = ok (.tup (mV n M)) h' ∧ (∀ i j, i < n → ((M i).testBit j = true ↔ j < n ∧ R i j = true)) ∧ Keep (fun _ => False) h h' := by
  obtain ⟨M, h', e, b, k⟩ := high_masksL (h := h) (P := PS n R) hn fun p hp => ⟨(PS_mem.mp hp).1, (PS_mem.mp hp).2.1⟩
  refine ⟨M, h', e, fun i j hi => ?_, k⟩
  rw [b i j hi, PS_mem]
  exact ⟨fun z => z.2, fun z => ⟨hi, z⟩⟩
end Mi.k03
set_option maxHeartbeats 4000000
namespace Mi.k03
open PySem L2
theorem low_bit {p a : Nat} : (2 ^ (p + 1) * a + 2 ^ p) &&& (2 ^ (p + 1) * a + 2 ^ p - 1) = 2 ^ (p + 1) * a := by
  have h1 : 2 ^ p < 2 ^ (p + 1) := by rw [Nat.pow_succ]; have := Nat.two_pow_pos p; omega
  have h0 := Nat.two_pow_pos p
  have e : 2 ^ (p + 1) * a + 2 ^ p - 1 = 2 ^ (p + 1) * a + (2 ^ p - 1) := by omega
  rw [e]
  apply Nat.eq_of_testBit_eq
  intro j
  have e0 : 2 ^ (p + 1) * a = 2 ^ (p + 1) * a + 0 := rfl
  rw [Nat.testBit_and, Nat.testBit_two_pow_mul_add _ h1, Nat.testBit_two_pow_mul_add _ (by omega)]
  conv => rhs; rw [e0, Nat.testBit_two_pow_mul_add _ (Nat.two_pow_pos _)]
  by_cases c : j < p + 1
  · rw [if_pos c, if_pos c, if_pos c, Nat.testBit_two_pow, Nat.testBit_two_pow_sub_one, Nat.zero_testBit]
    by_cases d : p = j
    · simp [d]
    · simp [d]
  · rw [if_neg c, if_neg c, if_neg c, Bool.and_self]
theorem and_neg {m k : Nat} (h0 : 0 < m) (e : m &&& (m - 1) = k) : Builtin.bitAnd (m : Int) (-(m : Int)) = ((m - k : Nat) : Int) := by
  have hk : k ≤ m := by rw [← e]; exact Nat.and_le_left
  have a : decide (0 ≤ (m : Int)) = true := decide_eq_true (by omega)
  have b : decide (0 ≤ -(m : Int)) = false := decide_eq_false (by omega)
  have c : (Builtin.bitNot (-(m : Int))).toNat = m - 1 := by
    unfold Builtin.bitNot
    omega
  unfold Builtin.bitAnd
  simp only [a, b, c, Int.toNat_natCast, e]
  omega
theorem bits_pow {p : Nat} : Builtin.Int.intBits (((2 ^ p : Nat) : Int)) = p + 1 := by
  unfold Builtin.Int.intBits
  have h0 := Nat.two_pow_pos p
  have : ¬ (((2 ^ p : Nat) : Int) == 0) = true := by
    rw [beq_iff_eq]
    omega
  rw [if_neg this, Int.natAbs_natCast, Nat.log2_two_pow]
noncomputable def pcd : MM Bool := truM (varM 0)
noncomputable def pbd : MT := (seqS (setS 2 (opM andF (varM 0) (unM negF (varM 0))))
    (seqS (dropS (mthM appF (varM 1) (consA (opM subF (bitsM (varM 2)) (cM (.int 1))) nilA)))
    (setS 0 (opM subF (varM 0) (varM 2)))))
theorem pts_turn {p a l : Nat} {acc : List MV} {h : MH} {x2 : Option MV} (hl : h[l]? = some (.lst acc)) (hc : acc.length < lim) :
    pbd [some (.int ((2 ^ (p + 1) * a + 2 ^ p : Nat) : Int)), some (.ref l), x2] h = some (.nx [some (.int ((2 ^ (p + 1) * a : Nat) : Int)), some (.ref l), some (.int ((2 ^ p : Nat) : Int))] (h.set l (.lst (acc ++ [.int (p : Int)])))) := by
  have h0 := Nat.two_pow_pos p
  obtain ⟨m, em⟩ : ∃ m, 2 ^ (p + 1) * a + 2 ^ p = m := ⟨_, rfl⟩
  obtain ⟨k, ek⟩ : ∃ k, 2 ^ (p + 1) * a = k := ⟨_, rfl⟩
  have e1 : Builtin.bitAnd (m : Int) (-(m : Int)) = ((2 ^ p : Nat) : Int) := by
    rw [and_neg (k := k) (by omega) (by rw [← em, low_bit, ek])]
    omega
  have e2 := bits_pow (p := p)
  obtain ⟨t, et⟩ : ∃ t, 2 ^ p = t := ⟨_, rfl⟩
  rw [et] at e1 e2 em
  rw [et, ek]
  rw [ek] at em
  rw [em]
  have e3 : (m : Int) - (t : Int) = (k : Int) := by omega
  have e4 : ((p : Int) + 1) - 1 = (p : Int) := by omega
  simp [pbd, e1, e2, e3, e4, hl, hc]
theorem whl_stop {cd : MM Bool} {bd : MT} {n : Nat} {s : MS} {h : MH} (e : cd s h = ok false h) : whlG cd bd (n + 1) s h = some (.nx s h) := by
  unfold whlG
  rw [e]
  rfl
theorem whl_go {cd : MM Bool} {bd : MT} {n : Nat} {s s' : MS} {h h' : MH} (e : cd s h = ok true h) (e2 : bd s h = some (.nx s' h')) : whlG cd bd (n + 1) s h = whlG cd bd n s' h' := by
  conv => lhs; unfold whlG
  rw [e]
  simp [bndS, e2]
theorem pts_loop {l : Nat} : ∀ (d p b fuel : Nat) (acc : List MV) (h : MH) (x2 : Option MV), b < 2 ^ d → d < fuel → h[l]? = some (.lst acc) → acc.length + d < lim →
    ∃ x2' h', whlG pcd pbd fuel [some (.int ((2 ^ p * b : Nat) : Int)), some (.ref l), x2] h = some (.nx [some (.int 0), some (.ref l), x2'] h') ∧ h'[l]? = some (.lst (acc ++ ((List.range' p d).filter (2 ^ p * b).testBit).map fun (i : Nat) => .int (i : Int))) ∧ Keep (fun j => j = l) h h'
  | 0, p, b, fuel, acc, h, x2, hb, hf, hl, hc => by
    obtain rfl : b = 0 := by simpa using hb
    obtain ⟨n, rfl⟩ : ∃ n, fuel = n + 1 := ⟨fuel - 1, by omega⟩
    refine ⟨x2, h, ?_, by simpa using hl, Keep.refl _⟩
    rw [Nat.mul_zero]
    exact whl_stop (by simp [pcd])
  | d + 1, p, b, fuel, acc, h, x2, hb, hf, hl, hc => by
    have hb2 : b / 2 < 2 ^ d := by rw [Nat.pow_succ] at hb; omega
    rw [List.range'_succ]
    rcases Nat.mod_two_eq_zero_or_one b with e | e
    · have eb : 2 ^ p * b = 2 ^ (p + 1) * (b / 2) := by
        rw [Nat.pow_succ, Nat.mul_assoc, show 2 * (b / 2) = b by omega]
      have tb0 : (2 ^ (p + 1) * (b / 2)).testBit p = false := by
        have := Nat.testBit_two_pow_mul_add (b / 2) (Nat.two_pow_pos (p + 1)) p
        rw [Nat.add_zero, if_pos (by omega), Nat.zero_testBit] at this
        exact this
      rw [eb, List.filter_cons_of_neg (by rw [tb0]; exact Bool.false_ne_true)]
      exact pts_loop d (p + 1) (b / 2) fuel acc h x2 hb2 (by omega) hl (by omega)
    · have eb : 2 ^ p * b = 2 ^ (p + 1) * (b / 2) + 2 ^ p := by
        rw [Nat.pow_succ, Nat.mul_assoc]
        conv => lhs; rw [show b = 2 * (b / 2) + 1 by omega]
        rw [Nat.mul_add, Nat.mul_one]
      obtain ⟨n, rfl⟩ : ∃ n, fuel = n + 1 := ⟨fuel - 1, by omega⟩
      have h1 : 2 ^ p < 2 ^ (p + 1) := by rw [Nat.pow_succ]; have := Nat.two_pow_pos p; omega
      have bit := fun j => Nat.testBit_two_pow_mul_add (b / 2) h1 j
      have bit0 := fun j => Nat.testBit_two_pow_mul_add (b / 2) (Nat.two_pow_pos (p + 1)) j
      have tb1 : (2 ^ (p + 1) * (b / 2) + 2 ^ p).testBit p = true := by
        rw [bit, if_pos (by omega), Nat.testBit_two_pow]
        exact decide_eq_true rfl
      have same : (List.range' (p + 1) d).filter (2 ^ (p + 1) * (b / 2) + 2 ^ p).testBit = (List.range' (p + 1) d).filter (2 ^ (p + 1) * (b / 2)).testBit := List.filter_congr fun j hj => by
        have := (List.mem_range'_1.mp hj).1
        have z := bit0 j
        rw [Nat.add_zero] at z
        rw [bit, z, if_neg (by omega), if_neg (by omega)]
      have hl' : (h.set l (.lst (acc ++ [.int (p : Int)])))[l]? = some (.lst (acc ++ [.int (p : Int)])) := get_set hl
      obtain ⟨x2', h', e1, e2, k⟩ := pts_loop d (p + 1) (b / 2) n (acc ++ [.int (p : Int)]) _ (some (.int ((2 ^ p : Nat) : Int))) hb2 (by omega) hl' (by rw [List.length_append]; show acc.length + 1 + d < lim; omega)
      have c0 : pcd [some (.int ((2 ^ (p + 1) * (b / 2) + 2 ^ p : Nat) : Int)), some (.ref l), x2] h = ok true h := by
        have : ¬ 2 ^ (p + 1) * (b / 2) + 2 ^ p = 0 := by have := Nat.two_pow_pos p; omega
        obtain ⟨m, em⟩ : ∃ m, 2 ^ (p + 1) * (b / 2) + 2 ^ p = m := ⟨_, rfl⟩
        rw [em] at this ⊢
        have q : ¬ (m : Int) = 0 := by omega
        simp [pcd, q, this]
      refine ⟨x2', h', ?_, ?_, ((Keep.refl h).set (P := fun j => j = l) fun _ => rfl).trans k⟩
      · rw [eb, whl_go c0 (pts_turn hl (by omega))]
        exact e1
      · rw [e2, eb, List.filter_cons_of_pos tb1, same, List.map_cons, List.append_assoc]
        rfl
/-- the numbers below n with p -/
def fib (n : Nat) (p : Nat → Bool) : List MV := ((List.range n).filter p).map fun (i : Nat) => .int (i : Int)
theorem points_in {m n : Nat} {h : MH} (hn : n ≤ 64) (hm : m < 2 ^ n) : ∃ h', f_points_in [.int (m : Int)] h = ok (.tup (fib n m.testBit)) h' ∧ Keep (fun _ => False) h h' := by
  obtain ⟨x2, h', e, e2, k⟩ := pts_loop (l := h.length) n 0 m 70 [] (h ++ [.lst []]) none hm (by omega) get_app (by unfold lim; show 0 + n < _; omega)
  rw [Nat.pow_zero, Nat.one_mul, List.nil_append, ← List.range_eq_range'] at e2
  rw [Nat.pow_zero, Nat.one_mul] at e
  refine ⟨h', ?_, ((keeps (P := fun j => j = h.length) [.lst []]).trans k).weak fun j hj (e : j = h.length) => absurd e (by omega)⟩
  · have hm : f_points_in = defM 1 3 (seqS (setS 1 (refM (lstM nilA))) (seqS (whlG pcd pbd 70) (retS (bltM tupF (consA (varM 1) nilA))))) := rfl
    rw [hm]
    have l0 : 0 ≤ lim := Nat.zero_le _
    unfold fib
    simp [e, e2, l0]
end Mi.k03
set_option maxHeartbeats 4000000
namespace Mi.k03
open PySem L2
theorem size {h : MH} {l : Nat} (b : Box h l) : ∃ (d : Nat) (h' : MH), f_law_size [.ref l] h = ok (.int (d : Int)) h' ∧ d ≤ 64 ∧ Box h' l ∧ Kp l h h' := by
  obtain ⟨d, h1, e, hd, b1, k1⟩ := draw (m := 16) b (by omega) (by omega)
  rw [show ((16 : Nat) : Int) = 16 from rfl] at e
  have l3 : 3 ≤ lim := by unfold lim; omega
  have l2 : 2 ≤ lim := by unfold lim; omega
  by_cases c1 : d < 9
  · obtain ⟨m, hm, em⟩ : ∃ m : Nat, (0 < m ∧ m ≤ 9) ∧ atI [MV.int 4, .int 7, .int 9] ((d : Int) % 3) = some (.int (m : Int)) := by
      rcases (show (d : Int) % 3 = 0 ∨ (d : Int) % 3 = 1 ∨ (d : Int) % 3 = 2 by omega) with z | z | z <;> rw [z]
      · exact ⟨4, by omega, rfl⟩
      · exact ⟨7, by omega, rfl⟩
      · exact ⟨9, by omega, rfl⟩
    obtain ⟨d2, h2, e2, hd2, b2, k2⟩ := draw (m := m) b1 hm.1 (by omega)
    refine ⟨d2, h2, ?_, by omega, b2, k1.trans (k2.weak fun _ _ z => z)⟩
    have c1' : (d : Int) < 9 := by omega
    simp [f_law_size, m_law_size, e, c1, c1', l3, em, e2]
  · by_cases c2 : d < 14
    · obtain ⟨d2, h2, e2, hd2, b2, k2⟩ := draw (m := 11) b1 (by omega) (by omega)
      rw [show ((11 : Nat) : Int) = 11 from rfl] at e2
      refine ⟨4 + d2, h2, ?_, by omega, b2, k1.trans (k2.weak fun _ _ z => z)⟩
      have c1' : ¬ (d : Int) < 9 := by omega
      have c2' : (d : Int) < 14 := by omega
      simp [f_law_size, m_law_size, e, c1, c1', c2, c2', e2]
    · obtain ⟨d2, h2, e2, hd2, b2, k2⟩ := draw (m := 50) b1 (by omega) (by omega)
      rw [show ((50 : Nat) : Int) = 50 from rfl] at e2
      have c1' : ¬ (d : Int) < 9 := by omega
      have c2' : ¬ (d : Int) < 14 := by omega
      rcases (show (d : Int) % 2 = 0 ∨ (d : Int) % 2 = 1 by omega) with z | z
      · have a0 : atI [MV.int (15 + (d2 : Int)), .int 64] (0 : Int) = some (.int (15 + (d2 : Int))) := rfl
        refine ⟨15 + d2, h2, ?_, by omega, b2, k1.trans (k2.weak fun _ _ z => z)⟩
        simp [f_law_size, m_law_size, e, c1, c1', c2, c2', e2, l2, z, a0]
      · have a0 : atI [MV.int (15 + (d2 : Int)), .int 64] (1 : Int) = some (.int 64) := rfl
        refine ⟨64, h2, ?_, by omega, b2, k1.trans (k2.weak fun _ _ z => z)⟩
        simp [f_law_size, m_law_size, e, c1, c1', c2, c2', e2, l2, z, a0]
theorem perm_cut : ∀ {xs : List MV} {d : Nat} (h : d < xs.length), (xs[d] :: xs.eraseIdx d).Perm xs
  | x :: xs, 0, _ => List.Perm.refl _
  | x :: xs, d + 1, h => by
    have hd : d < xs.length := by simpa using h
    show (xs[d] :: x :: xs.eraseIdx d).Perm (x :: xs)
    exact (List.Perm.swap x xs[d] _).trans ((perm_cut hd).cons x)
/-! ### a drawn sequence of all points -/
theorem line {h : MH} {l n : Nat} (b : Box h l) (hn : n ≤ 64) : ∃ ln h', f_law_line [.ref l, .int (n : Int)] h = ok (.fls (ptV n ln)) h' ∧ (∀ i, i < n → ln i < n) ∧ (∀ i j, i < n → j < n → ln i = ln j → i = j) ∧ Box h' l ∧ Kp l h h' := by
  have q : (n : Int) ≤ 1000000 := by omega
  have q' : (-1000000 : Int) ≤ n := by omega
  have hl := b.lt
  have e0 := fun h => lc_tb (g := one 3) (el := varM 3) (s0 := [some (.ref l), some (.int (n : Int)), none, none]) (h := h) (n := n) (fun i => .int (i : Int)) (by unfold lim; omega) fun i hi => ⟨_, rfl, rfl⟩
  obtain ⟨acc, h', e, xs, e1, c1, c2, pm, b', k'⟩ := lc_runH (g := one 3) (cd := yesT) (el := mthM popAtF (varM 2) (consA (callM f_law_draw [] (consA (varM 0) (consA (bltM lenF (consA (varM 2) nilA)) nilA))) nilA)) (s0 := [some (.ref l), some (.int (n : Int)), some (.ref h.length), none]) (n := n) (h := h ++ [.lst (tb n fun i => .int (i : Int))])
    (fun i acc g => ∃ xs, g[h.length]? = some (.lst xs) ∧ xs.length + i = n ∧ acc.length = i ∧ (acc ++ xs).Perm (tb n fun i => MV.int (i : Int)) ∧ Box g l ∧ Kp l h g)
    ⟨_, get_app, tb_len, rfl, List.Perm.refl _, b.app _, keeps _⟩ fun i acc g hi ⟨xs, e1, c1, c2, pm, b', k'⟩ => by
      obtain ⟨d, g1, ed, hd, b1, k1⟩ := draw (m := xs.length) b' (by omega) (by omega)
      have e1' := k1.get e1 (by omega)
      have l1 : xs.length ≤ lim := by unfold lim; omega
      have ey := List.getElem?_eq_getElem hd
      refine ⟨_, rfl, true, g, rfl, fun _ => ⟨xs[d], g1.set h.length (.lst (xs.eraseIdx d)), ?_, by unfold lim; omega, xs.eraseIdx d, get_set e1', ?_, ?_, ?_, ?_, ?_⟩, fun z => nomatch z⟩
      · simp only [List.set_cons_succ, List.set_cons_zero]
        simp [e1, ed, e1', ixN_nat hd, hd, l1]
      · rw [List.length_eraseIdx_of_lt hd]
        omega
      · rw [List.length_append, c2]
        rfl
      · rw [List.append_assoc]
        exact (List.Perm.append_left acc (perm_cut hd)).trans pm
      · exact b1.keep (Keep.set (P := fun j => j = h.length) (Keep.refl g1) fun _ => rfl) (by omega)
      · exact (k'.trans (k1.weak fun _ _ z => z)).set fun z => absurd z (by omega)
  have xn : xs = [] := List.eq_nil_of_length_eq_zero (by omega)
  subst xn
  rw [List.append_nil] at pm
  have nd : acc.Nodup := pm.nodup_iff.mpr (by
    unfold tb
    refine List.Pairwise.map _ (S := (· ≠ ·)) (fun a b h z => h ?_) List.nodup_range
    injection z with z
    omega)
  have : ∀ i, ∃ j : Nat, i < n → j < n ∧ acc[i]? = some (.int (j : Int)) := fun i => by
    by_cases hi : i < n
    · have hi' : i < acc.length := by omega
      obtain ⟨j, hj, ej⟩ := tb_mem.mp (pm.mem_iff.mp (List.getElem_mem hi'))
      exact ⟨j, fun _ => ⟨hj, by rw [List.getElem?_eq_getElem hi', ej]⟩⟩
    · exact ⟨0, fun z => absurd z hi⟩
  obtain ⟨ln, hln⟩ := Classical.axiomOfChoice this
  have ea : acc = ptV n ln := List.ext_getElem? fun i => by
    by_cases hi : i < n
    · rw [(hln i hi).2]
      exact (tb_get (F := fun i => MV.int (ln i : Int)) hi).symm
    · rw [List.getElem?_eq_none (by omega), List.getElem?_eq_none (by unfold ptV; rw [tb_len]; omega)]
  refine ⟨ln, h', ?_, fun i hi => (hln i hi).1, fun i j hi hj z => nd_ix nd (hln i hi).2 (by rw [(hln j hj).2, z]), b', k'⟩
  rw [← ea]
  simp [f_law_line, m_law_line, q, q', wipeM, e0, e]
end Mi.k03
set_option maxHeartbeats 4000000
namespace Mi.k03
open PySem L2
def InR (n : Nat) (xs : List MV) : Prop := ∀ x ∈ xs, ∃ i : Nat, i < n ∧ x = .int (i : Int)
noncomputable def ch : MT := (ifS (andT (tstM (opM ltF (varM 2) (cM (.int 2)))) (tstM (opM ltF (bltM lenF (consA (varM 1) nilA)) (cM (.int 10))))) (setS 6 (flsM (lcM (rng1 (consA (varM 5) nilA)) [7] (one 7) (tstM (opM eqF (callM f_law_draw [] (consA (varM 0) (consA (cM (.int 2)) nilA))) (cM (.int 0)))) (varM 7)))) (ifS (andT (tstM (opM ltF (varM 2) (cM (.int 2)))) (tstM (opM ltF (bltM lenF (consA (varM 1) nilA)) (cM (.int 33))))) (setS 6 (flsM (lcM (rng1 (consA (opM mulF (varM 3) (bltM intF (consA (opM geF (varM 5) (varM 3)) nilA))) nilA)) [7] (one 7) (tstM (opM eqF (callM f_law_draw [] (consA (varM 0) (consA (cM (.int 2)) nilA))) (cM (.int 0)))) (varM 7)))) (ifS (tstM (opM ltF (varM 2) (cM (.int 3)))) (setS 6 (flsM (lcM (rng1 (consA (callM f_law_draw [] (consA (varM 0) (consA (cM (.int 4)) nilA))) nilA)) [8] (one 8) yesT (callM f_law_draw [] (consA (varM 0) (consA (varM 5) nilA)))))) (ifS (tstM (opM eqF (varM 2) (cM (.int 3)))) (setS 6 (flsM (lstM (consA (callM f_law_draw [] (consA (varM 0) (consA (varM 5) nilA))) nilA)))) (ifS (andT (tstM (opM eqF (varM 2) (cM (.int 4)))) (tstM (opM gtF (callM f_law_draw [] (consA (varM 0) (consA (cM (.int 3)) nilA))) (cM (.int 0))))) (setS 6 (flsM (lcM (rng1 (consA (cM (.int 2)) nilA)) [8] (one 8) yesT (opM subF (opM subF (varM 5) (cM (.int 1))) (callM f_law_draw [] (consA (varM 0) (consA (bltM min2F (consA (varM 5) (consA (cM (.int 3)) nilA))) nilA))))))) (ifS (andT (tstM (opM eqF (varM 2) (cM (.int 5)))) (tstM (opM gtF (callM f_law_draw [] (consA (varM 0) (consA (cM (.int 12)) nilA))) (cM (.int 0))))) (setS 6 (flsM (lstM (consA (opM subF (varM 5) (cM (.int 1))) nilA)))) nilS))))))
noncomputable def la : MT := (setS 4 (flsM (catL (varM 4) (flsM (lcM (seqI (varM 6)) [7] (one 7) yesT (tupM (consA (opM ixF (varM 1) (varM 7)) (consA (opM ixF (varM 1) (varM 5)) nilA))))))))
def sl (l n : Nat) (ln : Nat → Nat) (d hf : Nat) (links : List MV) (k : Nat) (pl : List MV) (x7 x8 : Option MV) : MS := [some (.ref l), some (.fls (ptV n ln)), some (.int (d : Int)), some (.int (hf : Int)), some (.fls links), some (.int (k : Int)), some (.fls pl), x7, x8]
theorem flt {h : MH} {l n : Nat} {ln : Nat → Nat} {d hf : Nat} {links : List MV} {k r : Nat} {pl : List MV} (b : Box h l) (hr : r ≤ k) (hk : r ≤ 64) : ∃ acc h', lcS (one 7) (tstM (opM eqF (callM f_law_draw [] (consA (varM 0) (consA (cM (.int 2)) nilA))) (cM (.int 0)))) (varM 7) (sl l n ln d hf links k pl none none) (runOf 0 r) [] h = ok acc h' ∧ InR k acc ∧ acc.length ≤ 64 ∧ Box h' l ∧ Kp l h h' := by
  obtain ⟨acc, h', e, a1, a2, b', k'⟩ := lc_runH (g := one 7) (cd := tstM (opM eqF (callM f_law_draw [] (consA (varM 0) (consA (cM (.int 2)) nilA))) (cM (.int 0)))) (el := varM 7) (s0 := sl l n ln d hf links k pl none none) (n := r) (h := h)
    (fun i acc g => InR k acc ∧ acc.length ≤ i ∧ Box g l ∧ Kp l h g) ⟨(fun x hx => nomatch hx), Nat.le_refl _, b, Keep.refl _⟩ fun i acc g hi ⟨a1, a2, b', k'⟩ => by
      obtain ⟨c, g1, ec, hc, b1, k1⟩ := draw (m := 2) b' (by omega) (by omega)
      rw [show ((2 : Nat) : Int) = 2 from rfl] at ec
      refine ⟨_, rfl, decide (c = 0), g1, ?_, fun _ => ⟨.int (i : Int), g1, rfl, by unfold lim; omega, fun x hx => ?_, by rw [List.length_append]; show acc.length + 1 ≤ _; omega, b1, k'.trans (k1.weak fun _ _ z => z)⟩, fun _ => ⟨a1, by omega, b1, k'.trans (k1.weak fun _ _ z => z)⟩⟩
      · by_cases c0 : c = 0
        · subst c0
          have ec' : f_law_draw [MV.ref l, MV.int 2] g = ok (MV.int 0) g1 := ec
          simp [sl, ec', eqB]
        · simp [sl, ec, eqB, c0]
      · rcases List.mem_append.mp hx with z | z
        · exact a1 x z
        · exact ⟨i, by omega, List.mem_singleton.mp z⟩
  exact ⟨acc, h', e, a1, by omega, b', k'⟩
theorem dr1 {h : MH} {l k : Nat} {s0 : MS} {el : ME} {r : Nat} (b : Box h l) (hr : r ≤ 64) (he : ∀ i g, Box g l → ∃ c g1, el (s0.set 8 (some (.int (i : Int)))) g = ok (.int ((c : Nat) : Int)) g1 ∧ c < k ∧ Box g1 l ∧ Kp l g g1) : ∃ acc h', lcS (one 8) yesT el s0 (runOf 0 r) [] h = ok acc h' ∧ InR k acc ∧ acc.length ≤ 64 ∧ Box h' l ∧ Kp l h h' := by
  obtain ⟨acc, h', e, a1, a2, b', k'⟩ := lc_runH (g := one 8) (cd := yesT) (el := el) (s0 := s0) (n := r) (h := h)
    (fun i acc g => InR k acc ∧ acc.length ≤ i ∧ Box g l ∧ Kp l h g) ⟨(fun x hx => nomatch hx), Nat.le_refl _, b, Keep.refl _⟩ fun i acc g hi ⟨a1, a2, b', k'⟩ => by
      obtain ⟨c, g1, ec, hc, b1, k1⟩ := he i g b'
      refine ⟨_, rfl, true, g, rfl, fun _ => ⟨.int (c : Int), g1, ec, by unfold lim; omega, fun x hx => ?_, by rw [List.length_append]; show acc.length + 1 ≤ _; omega, b1, k'.trans (k1.weak fun _ _ z => z)⟩, fun z => nomatch z⟩
      rcases List.mem_append.mp hx with z | z
      · exact a1 x z
      · exact ⟨c, hc, List.mem_singleton.mp z⟩
  exact ⟨acc, h', e, a1, by omega, b', k'⟩
theorem chs {h : MH} {l n : Nat} {ln : Nat → Nat} {d hf : Nat} {links : List MV} {k : Nat} (b : Box h l) (hd : d < 6) (hn : n ≤ 64) (hk0 : 0 < k) (hk : k < n) (hh : hf ≤ 64) : ∃ pl h', ch (sl l n ln d hf links k [] none none) h = some (.nx (sl l n ln d hf links k pl none none) h') ∧ InR k pl ∧ pl.length ≤ 64 ∧ Box h' l ∧ Kp l h h' := by
  have qk : (k : Int) ≤ 1000000 := by omega
  have qk' : (-1000000 : Int) ≤ k := by omega
  have ll : (ptV n ln).length = n := tb_len
  have l1 : 1 ≤ lim := by unfold lim; omega
  by_cases c2 : d < 2
  · have c2' : (d : Int) < 2 := by omega
    by_cases c10 : n < 10
    · have c10' : (n : Int) < 10 := by omega
      obtain ⟨acc, h', e, r⟩ := flt (n := n) (ln := ln) (d := d) (hf := hf) (links := links) (k := k) (r := k) (pl := []) b (Nat.le_refl _) (by omega)
      unfold sl at e
      exact ⟨acc, h', by simp [ch, sl, ll, c2, c2', c10, c10', qk, qk', wipeM, e], r⟩
    · have c10' : ¬ (n : Int) < 10 := by omega
      by_cases c33 : n < 33
      · have c33' : (n : Int) < 33 := by omega
        by_cases ch1 : hf ≤ k
        · obtain ⟨acc, h', e, r⟩ := flt (n := n) (ln := ln) (d := d) (hf := hf) (links := links) (k := k) (r := hf) (pl := []) b ch1 hh
          have ch2 : (hf : Int) ≤ k := by omega
          have qh : (hf : Int) ≤ 1000000 := by omega
          have qh' : (-1000000 : Int) ≤ hf := by omega
          unfold sl at e
          exact ⟨acc, h', by simp [ch, sl, ll, c2, c2', c10, c10', c33, c33', qk, qk', wipeM, ch1, ch2, qh, qh', mulOk, e], r⟩
        · obtain ⟨acc, h', e, r⟩ := flt (n := n) (ln := ln) (d := d) (hf := hf) (links := links) (k := k) (r := 0) (pl := []) b (Nat.zero_le _) (by omega)
          have ch2 : ¬ (hf : Int) ≤ k := by omega
          unfold sl at e
          exact ⟨acc, h', by simp [ch, sl, ll, c2, c2', c10, c10', c33, c33', qk, qk', wipeM, ch1, ch2, mulOk, e], r⟩
      · have c33' : ¬ (n : Int) < 33 := by omega
        have c3' : (d : Int) < 3 := by omega
        have c3 : d < 3 := by omega
        obtain ⟨m, h1, em, hm, b1, k1⟩ := draw (m := 4) b (by omega) (by omega)
        rw [show ((4 : Nat) : Int) = 4 from rfl] at em
        obtain ⟨acc, h', e, r1, r2, r3, r4⟩ := dr1 (k := k) (s0 := sl l n ln d hf links k [] none none) (el := callM f_law_draw [] (consA (varM 0) (consA (varM 5) nilA))) (r := m) b1 (by omega) fun i g bg => by
          obtain ⟨c, g1, ec, hc, b2, k2⟩ := draw (m := k) bg hk0 (by omega)
          exact ⟨c, g1, by simp [sl, ec], hc, b2, k2⟩
        have qm : (m : Int) ≤ 1000000 := by omega
        have qm' : (-1000000 : Int) ≤ m := by omega
        unfold sl at e
        exact ⟨acc, h', by simp [ch, sl, ll, c2, c2', c10, c10', c33, c33', c3, c3', wipeM, em, qm, qm', e], r1, r2, r3, k1.trans (r4.weak fun _ _ z => z)⟩
  · have c2' : ¬ (d : Int) < 2 := by omega
    by_cases c3 : d < 3
    · have c3' : (d : Int) < 3 := by omega
      obtain ⟨m, h1, em, hm, b1, k1⟩ := draw (m := 4) b (by omega) (by omega)
      rw [show ((4 : Nat) : Int) = 4 from rfl] at em
      obtain ⟨acc, h', e, r1, r2, r3, r4⟩ := dr1 (k := k) (s0 := sl l n ln d hf links k [] none none) (el := callM f_law_draw [] (consA (varM 0) (consA (varM 5) nilA))) (r := m) b1 (by omega) fun i g bg => by
        obtain ⟨c, g1, ec, hc, b2, k2⟩ := draw (m := k) bg hk0 (by omega)
        exact ⟨c, g1, by simp [sl, ec], hc, b2, k2⟩
      have qm : (m : Int) ≤ 1000000 := by omega
      have qm' : (-1000000 : Int) ≤ m := by omega
      unfold sl at e
      exact ⟨acc, h', by simp [ch, sl, ll, c2, c2', c3, c3', wipeM, em, qm, qm', e], r1, r2, r3, k1.trans (r4.weak fun _ _ z => z)⟩
    · have c3' : ¬ (d : Int) < 3 := by omega
      rcases (show d = 3 ∨ d = 4 ∨ d = 5 by omega) with z | z | z <;> subst z
      · obtain ⟨c, h1, ec, hc, b1, k1⟩ := draw (m := k) b hk0 (by omega)
        exact ⟨[.int (c : Int)], h1, by simp [ch, sl, eqB, ec, l1], fun x hx => ⟨c, hc, List.mem_singleton.mp hx⟩, by show 1 ≤ 64; omega, b1, k1⟩
      · obtain ⟨m, h1, em, hm, b1, k1⟩ := draw (m := 3) b (by omega) (by omega)
        rw [show ((3 : Nat) : Int) = 3 from rfl] at em
        by_cases cm : 0 < m
        · have cm' : (0 : Int) < m := by omega
          obtain ⟨acc, h', e, r1, r2, r3, r4⟩ := dr1 (k := k) (s0 := sl l n ln 4 hf links k [] none none) (el := opM subF (opM subF (varM 5) (cM (.int 1))) (callM f_law_draw [] (consA (varM 0) (consA (bltM min2F (consA (varM 5) (consA (cM (.int 3)) nilA))) nilA)))) (r := 2) b1 (by omega) fun i g bg => by
            obtain ⟨mn, hmn, emn⟩ : ∃ mn : Nat, (0 < mn ∧ mn ≤ k) ∧ (if (3 : Int) < k then (3 : Int) else k) = (mn : Int) := by
              by_cases z : (3 : Int) < k
              · exact ⟨3, by omega, by rw [if_pos z]; rfl⟩
              · exact ⟨k, by omega, by rw [if_neg z]⟩
            obtain ⟨c, g1, ec, hc, b2, k2⟩ := draw (m := mn) bg hmn.1 (by omega)
            refine ⟨k - 1 - c, g1, ?_, by omega, b2, k2⟩
            have ek : (k : Int) - 1 - (c : Int) = ((k - 1 - c : Nat) : Int) := by omega
            rw [← ek]
            simp [sl, emn, ec]
          unfold sl at e
          rw [show ((4 : Nat) : Int) = 4 from rfl] at e
          exact ⟨acc, h', by simp [ch, sl, eqB, em, cm, cm', wipeM, e], r1, r2, r3, k1.trans (r4.weak fun _ _ z => z)⟩
        · have cm' : ¬ (0 : Int) < m := by omega
          exact ⟨[], h1, by simp [ch, sl, eqB, em, cm, cm'], (fun x hx => nomatch hx), by show 0 ≤ 64; omega, b1, k1⟩
      · obtain ⟨m, h1, em, hm, b1, k1⟩ := draw (m := 12) b (by omega) (by omega)
        rw [show ((12 : Nat) : Int) = 12 from rfl] at em
        by_cases cm : 0 < m
        · have cm' : (0 : Int) < m := by omega
          refine ⟨[.int ((k - 1 : Nat) : Int)], h1, ?_, fun x hx => ⟨k - 1, by omega, List.mem_singleton.mp hx⟩, by show 1 ≤ 64; omega, b1, k1⟩
          have ek : (k : Int) - 1 = ((k - 1 : Nat) : Int) := by omega
          rw [← ek]
          simp [ch, sl, eqB, em, cm, cm', l1]
        · have cm' : ¬ (0 : Int) < m := by omega
          exact ⟨[], h1, by simp [ch, sl, eqB, em, cm, cm'], (fun x hx => nomatch hx), by show 0 ≤ 64; omega, b1, k1⟩
/-- links lead forward along the line -/
def Lk (n : Nat) (ln : Nat → Nat) (xs : List MV) : Prop := ∀ x ∈ xs, ∃ j k : Nat, j < k ∧ k < n ∧ x = prV (ln j, ln k)
theorem las {h : MH} {l n : Nat} {ln : Nat → Nat} {d hf : Nat} {links : List MV} {k : Nat} {pl : List MV} (hn : n ≤ 64) (hk : k < n) (hp : InR k pl) (h1 : pl.length ≤ 64) (hl : links.length ≤ 64 * 64) (L : Lk n ln links) :
    ∃ lk, la (sl l n ln d hf links k pl none none) h = some (.nx (sl l n ln d hf lk k pl none none) h) ∧ Lk n ln lk ∧ lk.length ≤ links.length + 64 := by
  have e := lcS_pure (g := one 7) (cd := yesT) (el := tupM (consA (opM ixF (varM 1) (varM 7)) (consA (opM ixF (varM 1) (varM 5)) nilA))) (s0 := sl l n ln d hf links k pl none none) (h := h) (fun _ => true) (fun x => match x with | .int i => prV (ln i.toNat, ln k) | _ => .non) (xs := pl) (acc := []) (fun x hx => by
    obtain ⟨i, hi, ex⟩ := hp x hx
    subst ex
    refine ⟨_, rfl, rfl, fun _ => ?_⟩
    have b1 := atI_nat (tb_get (F := fun i => MV.int (ln i : Int)) (show i < n by omega))
    have b2 := atI_nat (tb_get (F := fun i => MV.int (ln i : Int)) hk)
    have l2 : 2 ≤ lim := by unfold lim; omega
    simp [sl, ptV, b1, b2, l2, prV]) (by unfold lim; show 0 + pl.length ≤ _; omega)
  rw [List.nil_append, List.filter_eq_self.mpr fun _ _ => rfl] at e
  refine ⟨links ++ pl.map (fun x => match x with | .int i => prV (ln i.toNat, ln k) | _ => .non), ?_, fun x hx => ?_, by rw [List.length_append, List.length_map]; omega⟩
  · have l4 : links.length + pl.length ≤ lim := by unfold lim; omega
    unfold sl at e ⊢
    simp [la, wipeM, e, l4]
  · rcases List.mem_append.mp hx with z | z
    · exact L x z
    · obtain ⟨y, hy, ey⟩ := List.mem_map.mp z
      obtain ⟨i, hi, ex⟩ := hp y hy
      subst ex
      exact ⟨i, k, hi, hk, ey.symm⟩
theorem seq_nx {a b : MT} {s s1 : MS} {h h1 : MH} (e : a s h = some (.nx s1 h1)) : seqS a b s h = b s1 h1 := by
  unfold seqS
  rw [e]
theorem linked {h : MH} {l n : Nat} {ln : Nat → Nat} (b : Box h l) (hn : n ≤ 64) : ∃ lk h', f_law_linked [.ref l, .fls (ptV n ln)] h = ok (.fls lk) h' ∧ Lk n ln lk ∧ lk.length ≤ 4096 ∧ Box h' l ∧ Kp l h h' := by
  obtain ⟨d, h1, ed, hd, b1, k1⟩ := draw (m := 6) b (by omega) (by omega)
  rw [show ((6 : Nat) : Int) = 6 from rfl] at ed
  obtain ⟨hf, hhf, ehf⟩ : ∃ hf : Nat, hf ≤ 64 ∧ (n : Int) / 2 = (hf : Int) := ⟨n / 2, by omega, by omega⟩
  have ll : (ptV n ln).length = n := tb_len
  have q : (n : Int) ≤ 1000000 := by omega
  have q' : (-1000000 : Int) ≤ n := by omega
  obtain ⟨s, h2, e, lk, x5, x6, hs, c1, c2, b2, k2⟩ := for_run (g := one 5) (m := seqS (setS 6 (flsM (lstM nilA))) (seqS ch la)) (a := 1) (n := n - 1) (s := [some (.ref l), some (.fls (ptV n ln)), some (.int (d : Int)), some (.int (hf : Int)), some (.fls []), none, none, none, none]) (h := h1)
    (fun i s g => ∃ lk x5 x6, s = [some (.ref l), some (.fls (ptV n ln)), some (.int (d : Int)), some (.int (hf : Int)), some (.fls lk), x5, x6, none, none] ∧ Lk n ln lk ∧ lk.length ≤ 64 * i ∧ Box g l ∧ Kp l h1 g)
    ⟨[], none, none, rfl, (fun x hx => nomatch hx), Nat.le_refl _, b1, Keep.refl _⟩ fun i s g hi ⟨lk, x5, x6, hs, c1, c2, b2, k2⟩ => by
      subst hs
      have ek : (1 : Int) + (i : Int) = ((i + 1 : Nat) : Int) := by omega
      rw [ek]
      obtain ⟨pl, g1, e1, r1, r2, r3, r4⟩ := chs (ln := ln) (d := d) (hf := hf) (links := lk) (k := i + 1) b2 hd hn (by omega) (by omega) hhf
      obtain ⟨lk2, e2, r5, r6⟩ := las (h := g1) (l := l) (ln := ln) (d := d) (hf := hf) (links := lk) (k := i + 1) (pl := pl) hn (by omega) r1 r2 (by omega) c1
      refine ⟨_, g1, .inl ?_, lk2, some (.int ((i + 1 : Nat) : Int)), some (.fls pl), rfl, r5, by omega, r3, k2.trans (r4.weak fun _ _ z => z)⟩
      show (seqS (setS 6 (flsM (lstM nilA))) (seqS ch la)) [some (.ref l), some (.fls (ptV n ln)), some (.int (d : Int)), some (.int (hf : Int)), some (.fls lk), some (.int ((i + 1 : Nat) : Int)), x6, none, none] g = _
      rw [seq_nx (s1 := sl l n ln d hf lk (i + 1) [] none none) (h1 := g) rfl, seq_nx e1, e2]
      rfl
  subst hs
  refine ⟨lk, h2, ?_, c1, by omega, b2, k1.trans (k2.weak fun _ _ z => z)⟩
  unfold ch la at e
  have l0 : ((n : Int) - 1).toNat = n - 1 := by omega
  simp [f_law_linked, m_law_linked, ed, ll, ehf, q, q', l0, e]
end Mi.k03
set_option maxHeartbeats 4000000
namespace Mi.k03
open PySem L2
/-! ### the table of what is below -/
theorem Mat.keep2 {h h' : MH} {R lo : Nat} {rows : List (List MV)} {rs : List Nat} (M : Mat h R rows lo rs) {P : Nat → Prop} (k : Keep P h h') (hR : ¬ P R) (hr : ∀ r ∈ rs, ¬ P r) : Mat h' R rows lo rs := ⟨k.get M.top hR, M.len, M.nd, M.no, M.loR, M.lor,
  fun i r xs h1 hx => k.get (M.row i r xs h1 hx) (hr r (List.mem_of_getElem? h1))⟩
theorem forL_ok {bd : MV → MT} {l : Nat} {xs : List MV} (I : Nat → MS → MH → Prop) (hk : ∀ i s h, I i s h → h[l]? = some (.lst xs)) (hs : ∀ i x s h, xs[i]? = some x → I i s h → ∃ s' h', (bd x s h = some (.nx s' h') ∨ bd x s h = some (.cnt s' h')) ∧ I (i + 1) s' h') : ∀ (m i : Nat) (s : MS) (h : MH), i + m = xs.length + 1 → 0 < m → I i s h →
    ∃ s' h', forL bd l m i s h = some (.nx s' h') ∧ I xs.length s' h'
  | 0, _, _, _, _, z, _ => absurd z (Nat.lt_irrefl _)
  | m + 1, i, s, h, hm, _, hi => by
    unfold forL
    rw [hk i s h hi]
    dsimp only
    by_cases c : i < xs.length
    · rw [List.getElem?_eq_getElem c]
      dsimp only
      obtain ⟨s1, h1, e, q⟩ := hs i _ s h (List.getElem?_eq_getElem c) hi
      obtain ⟨s2, h2, e2, q2⟩ := forL_ok I hk hs m (i + 1) s1 h1 (by omega) (by omega) q
      refine ⟨s2, h2, ?_, q2⟩
      rcases e with e | e <;> rw [e] <;> exact e2
    · have : i = xs.length := by omega
      subst this
      rw [List.getElem?_eq_none (Nat.le_refl _)]
      exact ⟨s, h, rfl, hi⟩
def rows (n : Nat) (f : Nat → Nat → Bool) : List (List MV) := tb n fun x => tb n fun y => MV.bl (f x y)
theorem rows_get {n x : Nat} {f : Nat → Nat → Bool} (h : x < n) : (rows n f)[x]? = some (tb n fun y => MV.bl (f x y)) := tb_get h
theorem rows_set {n x : Nat} {f : Nat → Nat → Bool} {F : Nat → Bool} : (rows n f).set x (tb n fun y => MV.bl (F y)) = rows n fun a b => if a = x then F b else f a b := by
  unfold rows
  rw [tb_set]
  refine tb_congr fun i hi => ?_
  by_cases h : i = x
  · rw [if_pos h]
    refine tb_congr fun j hj => ?_
    show _ = MV.bl (if i = x then F j else f i j)
    rw [if_pos h]
  · rw [if_neg h]
    refine tb_congr fun j hj => ?_
    show _ = MV.bl (if i = x then F j else f i j)
    rw [if_neg h]
/-- the links, read -/
noncomputable def w1 : MT := dropS (mthM appF (opM ixF (varM 6) (varM 5)) (consA (varM 4) nilA))
noncomputable def w2 : MT := (ifS (tstM (opM eqF (bltM lenF (consA (opM ixF (varM 6) (varM 4)) nilA)) (cM (.int 0)))) (subS (cM (.bl true)) (opM ixF (varM 3) (varM 5)) (varM 4)) (ifS (notT (truM (opM ixF (opM ixF (varM 3) (varM 5)) (varM 4)))) (subS (refM (lcM (rng1 (consA (varM 2) nilA)) [7] (one 7) yesT (orV (opM ixF (opM ixF (varM 3) (varM 5)) (varM 7)) (orV (opM ixF (opM ixF (varM 3) (varM 4)) (varM 7)) (opM eqF (varM 7) (varM 4)))))) (varM 3) (varM 5)) nilS))
noncomputable def w3 : MT := forM (seqI (opM ixF (varM 6) (varM 5))) (one 4) w2
/-- the second loop's world: N is the heap's size before it; I: what is known of the table -/
structure Lo (n : Nat) (R1 R2 N : Nat) (A : Nat → List MV) (rs2 : List Nat) (I : (Nat → Nat → Bool) → Prop) (h g : MH) : Prop where
  low : ∃ f rs, Mat g R1 (rows n f) h.length rs ∧ (∀ r ∈ rs, r < R1 ∨ N ≤ r) ∧ I f
  ahd : Mat g R2 (tb n A) (R1 + 1) rs2 ∧ R2 < N ∧ ∀ r ∈ rs2, r < N
  old : Keep (fun _ => False) h g
  big : N ≤ g.length
theorem Lo.imp {n R1 R2 N : Nat} {A : Nat → List MV} {rs2 : List Nat} {I J : (Nat → Nat → Bool) → Prop} {h g : MH} (L : Lo n R1 R2 N A rs2 I h g) (i : ∀ f, I f → J f) : Lo n R1 R2 N A rs2 J h g := by
  obtain ⟨⟨f, rs, M, hr, hf⟩, a, o, b⟩ := L
  exact ⟨⟨f, rs, M, hr, i f hf⟩, a, o, b⟩
theorem Lo.write {n : Nat} {R1 R2 N : Nat} {A : Nat → List MV} {I J : (Nat → Nat → Bool) → Prop} {h g g' : MH} {f : Nat → Nat → Bool} {rs rs2 : List Nat} (L : Lo n R1 R2 N A rs2 I h g) (hR : h.length ≤ R1) (k : Keep (fun j => (h.length ≤ j ∧ j ≤ R1) ∨ N ≤ j) g g') (M : Mat g' R1 (rows n f) h.length rs) (hr : ∀ r ∈ rs, r < R1 ∨ N ≤ r) (hf : J f) (hN : h.length ≤ N) : Lo n R1 R2 N A rs2 J h g' := by
  obtain ⟨_, ⟨M2, l2, r2⟩, o, b⟩ := L
  have lo2 := M2.loR
  refine ⟨⟨f, rs, M, hr, hf⟩, ⟨Mat.keep2 M2 k (by omega) fun r hrr => by have := r2 r hrr; have := M2.lor r hrr; omega, l2, r2⟩, ⟨Nat.le_trans o.le k.le, fun j hj hp => ?_⟩, Nat.le_trans b k.le⟩
  rw [k.at_ j (Nat.lt_of_lt_of_le hj o.le) (by omega)]
  exact o.at_ j hj hp
def sw (n : Nat) (ln : Nat → Nat) (links : List MV) (R1 R2 : Nat) (x4 x5 : Option MV) : MS := [some (.fls (ptV n ln)), some (.fls links), some (.int (n : Int)), some (.ref R1), x4, x5, some (.ref R2), none]
theorem turn2 {n : Nat} {ln : Nat → Nat} {R1 R2 N x y : Nat} {A : Nat → List MV} {h g : MH} {links : List MV} {rs2 : List Nat} {x4 : Option MV} (hn : n ≤ 64) {I J : (Nat → Nat → Bool) → Prop} (hx : x < n) (hy : y < n) (u1 : ∀ f, I f → A x = [] → J fun a b => if a = y then (if b = x then true else f y b) else f a b) (u2 : ∀ f, I f → A x ≠ [] → f y x = true → J f) (u3 : ∀ f, I f → A x ≠ [] → f y x = false → J fun a b => if a = y then (f y b || f x b || decide (b = x)) else f a b) (hR : h.length ≤ R1) (hN : h.length ≤ N) (hR1 : R1 < N) (L : Lo n R1 R2 N A rs2 I h g) :
    ∃ g', turnM (one 4) w2 (.int (x : Int)) (sw n ln links R1 R2 x4 (some (.int (y : Int)))) g = some (.nx (sw n ln links R1 R2 (some (.int (x : Int))) (some (.int (y : Int)))) g') ∧ Lo n R1 R2 N A rs2 J h g' := by
  have L0 := L
  obtain ⟨⟨f, rs, M, hrs, hf⟩, ⟨M2, l2, r2⟩, o, bg⟩ := L
  obtain ⟨ry, ay, by_, _⟩ := M.ix (rows_get hy)
  obtain ⟨rx, ax, bx, _⟩ := M.ix (rows_get hx)
  obtain ⟨qx, cx, dx, _⟩ := M2.ix (tb_get (F := A) hx)
  have a1 : (rs.map MV.ref)[y]? = some (.ref ry) := by rw [List.getElem?_map, ay]; rfl
  have a2 : (rs.map MV.ref)[x]? = some (.ref rx) := by rw [List.getElem?_map, ax]; rfl
  have a3 : (rs2.map MV.ref)[x]? = some (.ref qx) := by rw [List.getElem?_map, cx]; rfl
  have q : (n : Int) ≤ 1000000 := by omega
  have q' : (-1000000 : Int) ≤ n := by omega
  have a4 : ixN n (x : Int) = some x := ixN_nat hx
  have hry := hrs ry (List.mem_of_getElem? ay)
  have lry := M.lor ry (List.mem_of_getElem? ay)
  by_cases c0 : (A x).length = 0
  · have e : (tb n fun z => MV.bl (f y z)).set x (.bl true) = tb n fun z => MV.bl (if z = x then true else f y z) := by
      rw [tb_set]
      refine tb_congr fun z _ => ?_
      by_cases q : z = x <;> simp [q]
    have M3 := M.wr (ys := tb n fun z => MV.bl (if z = x then true else f y z)) ay (rows_get hy)
    rw [rows_set] at M3
    refine ⟨g.set ry (.lst (tb n fun z => MV.bl (if z = x then true else f y z))), ?_, L0.write hR ((Keep.refl g).set fun _ => ?_) M3 hrs (u1 f hf (List.eq_nil_of_length_eq_zero c0)) hN⟩
    · have c0' : A x = [] := List.eq_nil_of_length_eq_zero c0
      rw [c0'] at dx
      simp [w2, sw, M.top, M2.top, atI_nat a1, atI_nat a3, dx, eqB, by_, a4, e]
    · rcases hry with z | z
      · exact .inl ⟨lry, by omega⟩
      · exact .inr z
  · have c0' : ¬ A x = [] := fun z => c0 (by rw [z]; rfl)
    have a5 := atI_nat (tb_get (F := fun z => MV.bl (f y z)) hx)
    cases cf : f y x with
    | true =>
      rw [cf] at a5
      exact ⟨g, by simp [w2, sw, M.top, M2.top, atI_nat a1, atI_nat a3, dx, eqB, c0', by_, a5], ⟨⟨f, rs, M, hrs, u2 f hf c0' cf⟩, ⟨M2, l2, r2⟩, o, bg⟩⟩
    | false =>
      rw [cf] at a5
      have e := lc_tb (g := one 7) (el := orV (opM ixF (opM ixF (varM 3) (varM 5)) (varM 7)) (orV (opM ixF (opM ixF (varM 3) (varM 4)) (varM 7)) (opM eqF (varM 7) (varM 4)))) (s0 := sw n ln links R1 R2 (some (.int (x : Int))) (some (.int (y : Int)))) (h := g) (n := n) (fun z => MV.bl (f y z || f x z || decide (z = x))) (by unfold lim; omega) fun z hz => by
        refine ⟨_, rfl, ?_⟩
        have b3 := atI_nat (tb_get (F := fun z => MV.bl (f y z)) hz)
        have b4 := atI_nat (tb_get (F := fun z => MV.bl (f x z)) hz)
        have eb : decide ((z : Int) = (x : Int)) = decide (z = x) := decide_eq_decide.mpr (by (omega))
        cases c1 : f y z with
        | true =>
          rw [c1] at b3
          simp [sw, M.top, atI_nat a1, by_, b3]
        | false =>
          rw [c1] at b3
          cases c2 : f x z with
          | true =>
            rw [c2] at b4
            simp [sw, M.top, atI_nat a1, by_, b3, atI_nat a2, bx, b4]
          | false =>
            rw [c2] at b4
            simp [sw, M.top, atI_nat a1, by_, b3, atI_nat a2, bx, b4, eqB, eb]
      have M3 := M.put (i := y) (ys := tb n fun z => MV.bl (f y z || f x z || decide (z = x))) o.le
      rw [rows_set] at M3
      refine ⟨_, ?_, L0.write hR (((Keep.refl g).app).set fun _ => .inl ⟨M.loR, Nat.le_refl _⟩) M3 (fun r hr => ?_) (u3 f hf c0' cf) hN⟩
      · have b5 : (g ++ [MO.lst (tb n fun z => MV.bl (f y z || f x z || decide (z = x)))])[R1]? = some (.lst (rs.map MV.ref)) := get_app_left M.top
        have b6 : ixN rs.length (y : Int) = some y := ixN_nat (List.getElem?_eq_some_iff.mp ay).1
        unfold sw at e
        simp [w2, sw, M.top, M2.top, atI_nat a1, atI_nat a3, dx, eqB, c0', by_, a5, wipeM, q, q', e, b5, b6, List.map_set]
      · rcases List.mem_or_eq_of_mem_set hr with z | z
        · exact hrs r z
        · rw [z]
          exact .inr bg
end Mi.k03
set_option maxHeartbeats 4000000
namespace Mi.k03
open PySem L2
/-- a way along links -/
inductive Rch (L : List (Nat × Nat)) : Nat → Nat → Prop
  | one {x y : Nat} : (x, y) ∈ L → Rch L x y
  | step {x z y : Nat} : Rch L x z → (z, y) ∈ L → Rch L x y
theorem Rch.trans {L : List (Nat × Nat)} {x y z : Nat} (a : Rch L x y) (b : Rch L y z) : Rch L x z := by
  induction b with
  | one h => exact .step a h
  | step _ h ih => exact .step ih h
def prds (L : List (Nat × Nat)) (y : Nat) : List Nat := (L.filter fun p => p.2 == y).map fun p => p.1
theorem prds_mem {L : List (Nat × Nat)} {x y : Nat} : x ∈ prds L y ↔ (x, y) ∈ L := by
  unfold prds
  rw [List.mem_map]
  constructor
  · rintro ⟨p, hp, rfl⟩
    obtain ⟨a, b⟩ := List.mem_filter.mp hp
    have : p.2 = y := by simpa using b
    subst this
    exact a
  · intro h
    exact ⟨(x, y), List.mem_filter.mpr ⟨h, by simp⟩, rfl⟩
theorem Rch.last {L : List (Nat × Nat)} {x y : Nat} (a : Rch L x y) : ∃ z, z ∈ prds L y ∧ (x = z ∨ Rch L x z) := by
  cases a with
  | one h => exact ⟨x, prds_mem.mpr h, .inl rfl⟩
  | step a h => exact ⟨_, prds_mem.mpr h, .inr a⟩
structure Iv (n : Nat) (ln : Nat → Nat) (L : List (Nat × Nat)) (i k : Nat) (f : Nat → Nat → Bool) : Prop where
  snd : ∀ y z, f y z = true → Rch L z y
  old : ∀ j, j < i → ∀ z, Rch L z (ln j) → f (ln j) z = true
  got : i < n → ∀ x ∈ (prds L (ln i)).take k, f (ln i) x = true ∧ ∀ z, Rch L z x → f (ln i) z = true
  cls : i < n → ∀ x, f (ln i) x = true → ∀ z, Rch L z x → f (ln i) z = true
  new : ∀ j, (i < j ∨ (j = i ∧ k = 0)) → j < n → ∀ z, f (ln j) z = false
/-- each link leads along the line -/
def Al' (n : Nat) (ln : Nat → Nat) (L : List (Nat × Nat)) : Prop := ∀ p ∈ L, Bf' n ln p.1 p.2
  where Bf' (n : Nat) (ln : Nat → Nat) (x y : Nat) : Prop := ∃ j k, j < k ∧ k < n ∧ x = ln j ∧ y = ln k
section
variable {n : Nat} {ln : Nat → Nat} {L : List (Nat × Nat)}
theorem Iv.next {i : Nat} {f : Nat → Nat → Bool} (v : Iv n ln L i (prds L (ln i)).length f) (hi : i < n) : Iv n ln L (i + 1) 0 f where
  snd := v.snd
  old := fun j hj z r => by
    by_cases c : j = i
    · subst c
      obtain ⟨w, hw, e⟩ := r.last
      have g := v.got hi w (by rw [List.take_length]; exact hw)
      rcases e with e | e
      · rw [e]
        exact g.1
      · exact g.2 z e
    · exact v.old j (by omega) z r
  got := fun _ x hx => by simp at hx
  cls := fun h x hx => by
    rw [v.new (i + 1) (.inl (by omega)) h x] at hx
    cases hx
  new := fun j hj hjn z => v.new j (.inl (by omega)) hjn z
theorem Iv.start (h0 : 0 < n ∨ n = 0) : Iv n ln L 0 0 fun _ _ => false where
  snd := fun _ _ h => by cases h
  old := fun j hj => absurd hj (Nat.not_lt_zero _)
  got := fun _ x hx => by simp at hx
  cls := fun _ _ h => by cases h
  new := fun _ _ _ _ => rfl
theorem take_some {α : Type} {l : List α} {k : Nat} {x z : α} (e : l[k]? = some x) (h : z ∈ l.take (k + 1)) : z ∈ l.take k ∨ z = x := by
  rw [List.take_add_one, e] at h
  rcases List.mem_append.mp h with h | h
  · exact .inl h
  · exact .inr (by simpa using h)
theorem Iv.step {i k x : Nat} {f f' : Nat → Nat → Bool} (inj : ∀ i j, i < n → j < n → ln i = ln j → i = j) (v : Iv n ln L i k f) (hi : i < n) (e : (prds L (ln i))[k]? = some x) (hne : ∀ a, a ≠ ln i → f' a = f a)
    (mono : ∀ z, f (ln i) z = true → f' (ln i) z = true) (hx : f' (ln i) x = true) (hxz : ∀ z, Rch L z x → f' (ln i) z = true) (snd : ∀ z, f' (ln i) z = true → f (ln i) z = true ∨ z = x ∨ Rch L z x) : Iv n ln L i (k + 1) f' where
  snd := fun y z h => by
    have ex := prds_mem.mp (List.mem_of_getElem? e)
    by_cases c : y = ln i
    · subst c
      rcases snd z h with h | h | h
      · exact v.snd _ _ h
      · rw [h]
        exact .one ex
      · exact .step h ex
    · rw [hne y c] at h
      exact v.snd _ _ h
  old := fun j hj z r => by
    rw [hne (ln j) fun z => by have := inj j i (by omega) hi z; omega]
    exact v.old j hj z r
  got := fun h z hz => by
    rcases take_some e hz with hz | hz
    · exact ⟨mono _ (v.got h z hz).1, fun w hw => mono _ ((v.got h z hz).2 w hw)⟩
    · rw [hz]
      exact ⟨hx, hxz⟩
  cls := fun h z hz w hw => by
    rcases snd z hz with hz | hz | hz
    · exact mono _ (v.cls h z hz w hw)
    · rw [hz] at hw
      exact hxz w hw
    · exact hxz w (hw.trans hz)
  new := fun j hj hjn z => by
    have : i < j := by omega
    rw [hne (ln j) fun z => by have := inj j i hjn hi z; omega]
    exact v.new j (.inl this) hjn z
end
def Av (L : List (Nat × Nat)) (y : Nat) : List MV := (prds L y).map fun (x : Nat) => .int (x : Int)
theorem Av_nil {L : List (Nat × Nat)} {y : Nat} : Av L y = [] ↔ prds L y = [] := by
  unfold Av
  exact List.map_eq_nil_iff
theorem turn1 {n : Nat} {ln : Nat → Nat} {R1 R2 : Nat} {L0 : List (Nat × Nat)} {p : Nat × Nat} {g : MH} {links : List MV} {x4 x5 : Option MV} {rs2 : List Nat} (hy : p.2 < n) (M2 : Mat g R2 (tb n (Av L0)) (R1 + 1) rs2) (hi : L0.length < 100000) :
    ∃ g', turnM (unp [4, 5]) w1 (prV p) (sw n ln links R1 R2 x4 x5) g = some (.nx (sw n ln links R1 R2 (some (.int (p.1 : Int))) (some (.int (p.2 : Int)))) g') ∧ Mat g' R2 (tb n (Av (L0 ++ [p]))) (R1 + 1) rs2 ∧ Keep (fun j => R1 < j) g g' ∧ g'.length = g.length := by
  obtain ⟨q, c, d, _⟩ := M2.ix (tb_get (F := Av L0) hy)
  have a3 : (rs2.map MV.ref)[p.2]? = some (.ref q) := by rw [List.getElem?_map, c]; rfl
  have lq := M2.lor q (List.mem_of_getElem? c)
  have M3 := M2.wr (ys := Av L0 p.2 ++ [.int (p.1 : Int)]) c (tb_get (F := Av L0) hy)
  rw [tb_set] at M3
  have e : (tb n fun k => if k = p.2 then Av L0 p.2 ++ [.int (p.1 : Int)] else Av L0 k) = tb n (Av (L0 ++ [p])) := tb_congr fun k _ => by
    unfold Av prds
    rw [List.filter_append, List.map_append, List.map_append]
    by_cases ck : k = p.2
    · simp [ck]
    · have : ¬ p.2 = k := fun z => ck z.symm
      simp [ck, this]
  rw [e] at M3
  refine ⟨g.set q (.lst (Av L0 p.2 ++ [.int (p.1 : Int)])), ?_, M3, (Keep.refl g).set fun _ => by show R1 < q; omega, by rw [List.length_set]⟩
  have l1 : (Av L0 p.2).length < lim := by
    unfold Av prds
    rw [List.length_map, List.length_map]
    have := List.length_filter_le (fun q : Nat × Nat => q.2 == p.2) L0
    unfold lim
    omega
  simp [w1, sw, prV, M2.top, atI_nat a3, d, l1]
theorem defM_ret {np n : Nat} {m : MT} {xs : List MV} {s : MS} {x : MV} {h h' : MH} (hl : xs.length = np) (hs : xs.map some ++ List.replicate (n - np) none = s) (e : m s h = some (.ret x h')) : defM np n m xs h = ok x h' := by
  subst hs
  unfold defM
  rw [if_pos hl, e]
theorem lower {h : MH} {n : Nat} {ln : Nat → Nat} {L : List (Nat × Nat)} (hn : n ≤ 64) (hl : ∀ i, i < n → ln i < n) (inj : ∀ i j, i < n → j < n → ln i = ln j → i = j) (sur : ∀ y, y < n → ∃ i, i < n ∧ ln i = y) (al : Al' n ln L) (hlen : L.length < 100000) :
    ∃ f h', f_law_lower [.fls (ptV n ln), .fls (L.map prV)] h = ok (matV n n f) h' ∧ (∀ y z, y < n → (f y z = true ↔ Rch L z y)) ∧ Keep (fun _ => False) h h' := by
  have q : (n : Int) ≤ 1000000 := by omega
  have q' : (-1000000 : Int) ≤ n := by omega
  have ll : (ptV n ln).length = n := tb_len
  obtain ⟨links, elk⟩ : ∃ links, L.map prV = links := ⟨_, rfl⟩
  rw [elk]
  have e0 : ∀ (h : MH) (i : Nat), lcS (one 4) yesT (cM (.bl false)) [some (.fls (ptV n ln)), some (.fls links), some (.int (n : Int)), none, none, some (.int (i : Int)), none, none] (runOf 0 n) [] h = ok (tb n fun _ => .bl false) h := fun h i => lc_tb (fun _ => MV.bl false) (by unfold lim; omega) fun i _ => ⟨_, rfl, rfl⟩
  have e1 := lc_refs (g := one 5) (m := lcM (rng1 (consA (varM 2) nilA)) [4] (one 4) yesT (cM (.bl false))) (s0 := [some (.fls (ptV n ln)), some (.fls links), some (.int (n : Int)), none, none, none, none, none]) (h := h) (n := n) (fun _ => tb n fun _ => .bl false) (by unfold lim; omega) fun i h hi => ⟨_, rfl, by simp [q, q', wipeM, e0]⟩
  obtain ⟨ha, hha⟩ : ∃ ha : MH, ha = h ++ ((tb n fun _ => MO.lst (tb n fun _ => .bl false)) ++ [MO.lst (tb n fun k => MV.ref (h.length + k))]) := ⟨_, rfl⟩
  have la : ha.length = h.length + n + 1 := by
    rw [hha, List.length_append, List.length_append, tb_len]
    rfl
  have M1 : Mat ha (h.length + n) (rows n fun _ _ => false) h.length (tb n fun k => h.length + k) := by
    rw [hha]
    exact mat_init _
  have K1 : Keep (fun _ => False) h ha := by
    rw [hha]
    exact keeps _
  have e2 := lc_refs (g := one 5) (m := lstM nilA) (s0 := [some (.fls (ptV n ln)), some (.fls links), some (.int (n : Int)), some (.ref (h.length + n)), none, none, none, none]) (h := ha) (n := n) (fun _ => []) (by unfold lim; omega) fun i h hi => ⟨_, rfl, by simp⟩
  obtain ⟨hb, hhb⟩ : ∃ hb : MH, hb = ha ++ ((tb n fun _ => MO.lst []) ++ [MO.lst (tb n fun k => MV.ref (ha.length + k))]) := ⟨_, rfl⟩
  have lb : hb.length = ha.length + n + 1 := by
    rw [hhb, List.length_append, List.length_append, tb_len]
    rfl
  have M2 : Mat hb (ha.length + n) (tb n fun _ => []) (h.length + n + 1) (tb n fun k => ha.length + k) := by
    rw [hhb, ← la]
    exact mat_init _
  have K2 : Keep (fun _ => False) ha hb := by
    rw [hhb]
    exact keeps _
  obtain ⟨s3, h3, e3, x4, x5, hs3, M3, K3, l3⟩ := forS_ok (bd := turnM (unp [4, 5]) w1) (fun i s g => ∃ x4 x5, s = sw n ln links (h.length + n) (ha.length + n) x4 x5 ∧ Mat g (ha.length + n) (tb n (Av (L.take i))) (h.length + n + 1) (tb n fun k => ha.length + k) ∧ Keep (fun j => h.length + n < j) hb g ∧ g.length = hb.length) (xs := L.map prV) (i0 := 0) (s := sw n ln links (h.length + n) (ha.length + n) none none) (h := hb)
    (fun i x s g hx ⟨x4, x5, hs, M, K, lg⟩ => by
      subst hs
      rw [List.getElem?_map] at hx
      obtain ⟨p, ep, ex⟩ := Option.map_eq_some_iff.mp hx
      subst ex
      obtain ⟨j, k, h1, h2, e1, e2⟩ := al p (List.mem_of_getElem? ep)
      obtain ⟨g', e, M', K', lg'⟩ := turn1 (ln := ln) (p := p) (links := links) (x4 := x4) (x5 := x5) (by rw [e2]; exact hl k h2) M (by rw [List.length_take]; omega)
      refine ⟨_, g', .inl e, _, _, rfl, ?_, K.trans (K'.weak fun _ _ z => z), lg'.trans lg⟩
      rw [List.take_add_one, show L[0 + i]? = some p by rw [Nat.zero_add]; exact ep]
      exact M')
    ⟨none, none, rfl, M2, Keep.refl _, rfl⟩
  subst hs3
  rw [Nat.zero_add, List.length_map, List.take_length] at M3
  rw [elk] at e3
  have K3' : Keep (fun _ => False) h h3 := ⟨by rw [l3]; exact Nat.le_trans K1.le K2.le, fun j hj _ => by
    rw [K3.at_ j (Nat.lt_of_lt_of_le hj (Nat.le_trans K1.le K2.le)) (by omega), K2.at_ j (Nat.lt_of_lt_of_le hj K1.le) id, K1.at_ j hj id]⟩
  have L3 : Lo n (h.length + n) (ha.length + n) h3.length (Av L) (tb n fun k => ha.length + k) (Iv n ln L 0 0) h h3 := by
    refine ⟨⟨fun _ _ => false, tb n fun k => h.length + k, ?_, fun r hr => ?_, Iv.start (by omega)⟩, ⟨M3, by omega, fun r hr => ?_⟩, K3', Nat.le_refl _⟩
    · have M1' : Mat hb (h.length + n) (rows n fun _ _ => false) h.length (tb n fun k => h.length + k) := Mat.keep2 M1 K2 id fun _ _ => id
      refine Mat.keep2 M1' K3 (by omega) fun r hr => ?_
      obtain ⟨i, hi, e⟩ := tb_mem.mp hr
      omega
    · obtain ⟨i, hi, e⟩ := tb_mem.mp hr
      exact .inl (by omega)
    · obtain ⟨i, hi, e⟩ := tb_mem.mp hr
      omega
  obtain ⟨s4, h4, e4, y4, y5, hs4, L4⟩ := forS_ok (bd := turnM (one 5) w3) (fun i s g => ∃ x4 x5, s = sw n ln links (h.length + n) (ha.length + n) x4 x5 ∧ Lo n (h.length + n) (ha.length + n) h3.length (Av L) (tb n fun k => ha.length + k) (Iv n ln L i 0) h g) (xs := ptV n ln) (i0 := 0) (s := sw n ln links (h.length + n) (ha.length + n) x4 x5) (h := h3)
    (fun i v s g hv ⟨x4, x5, hs, Lg⟩ => by
      subst hs
      rw [Nat.zero_add] at Lg ⊢
      obtain ⟨hi, ev⟩ := tb_some hv
      subst ev
      have hy := hl i hi
      obtain ⟨qq, c, d, _⟩ := Lg.ahd.1.ix (tb_get (F := Av L) hy)
      have a3 : ((tb n fun k => ha.length + k).map MV.ref)[ln i]? = some (.ref qq) := by rw [List.getElem?_map, c]; rfl
      have lAv : (Av L (ln i)).length = (prds L (ln i)).length := by unfold Av; rw [List.length_map]
      obtain ⟨s5, h5, e5, z4, hs5, L5⟩ := forL_ok (bd := turnM (one 4) w2) (l := qq) (xs := Av L (ln i)) (fun k s g => ∃ x4, s = sw n ln links (h.length + n) (ha.length + n) x4 (some (.int (ln i : Int))) ∧ Lo n (h.length + n) (ha.length + n) h3.length (Av L) (tb n fun k => ha.length + k) (Iv n ln L i k) h g)
        (fun k s g ⟨_, _, Lk⟩ => Lk.ahd.1.row (ln i) qq (Av L (ln i)) c (tb_get hy)) (fun k z s g hx ⟨x4, hs, Lk⟩ => by
          subst hs
          unfold Av at hx
          rw [List.getElem?_map] at hx
          obtain ⟨x, ex, ez⟩ := Option.map_eq_some_iff.mp hx
          subst ez
          obtain ⟨j, k', h1, h2, e1, e2⟩ := al _ (prds_mem.mp (List.mem_of_getElem? ex))
          simp only at e1 e2
          have hk' : k' = i := inj k' i h2 hi e2.symm
          have hxn : x < n := by rw [e1]; exact hl j (by omega)
          have hji : j < i := by omega
          have xne : x ≠ ln i := fun z => by
            have := inj j i (by omega) hi (e1.symm.trans z)
            omega
          obtain ⟨g', e, L'⟩ := turn2 (n := n) (ln := ln) (A := Av L) (links := links) (x4 := x4) (I := Iv n ln L i k) (J := Iv n ln L i (k + 1)) (x := x) (y := ln i) hn hxn hy
            (fun f hf hA => hf.step inj hi ex (fun a ha => by funext b; show (if a = ln i then _ else f a b) = _; rw [if_neg ha]) (fun z hz => by show (if ln i = ln i then (if z = x then true else f (ln i) z) else _) = true; rw [if_pos rfl]; by_cases c : z = x <;> simp [c, hz]) (by simp) (fun z hz => by
              obtain ⟨w, hw, _⟩ := hz.last
              rw [Av_nil.mp hA] at hw
              exact absurd hw (List.not_mem_nil)) (fun z hz => by
              have hz' : (if ln i = ln i then (if z = x then true else f (ln i) z) else f (ln i) z) = true := hz
              rw [if_pos rfl] at hz'
              by_cases c : z = x
              · exact .inr (.inl c)
              · rw [if_neg c] at hz'
                exact .inl hz'))
            (fun f hf hA hfx => hf.step inj hi ex (fun _ _ => rfl) (fun _ h => h) hfx (hf.cls hi x hfx) (fun _ h => .inl h))
            (fun f hf hA hfx => by
              have fx : ∀ z, Rch L z x → f x z = true := fun z hz => by
                rw [e1] at hz ⊢
                exact hf.old j hji z hz
              refine hf.step inj hi ex (fun a ha => ?_) (fun z hz => ?_) ?_ (fun z hz => ?_) (fun z hz => ?_)
              · funext b
                show (if a = ln i then _ else f a b) = _
                rw [if_neg ha]
              · show (if ln i = ln i then (f (ln i) z || f x z || decide (z = x)) else _) = true
                rw [if_pos rfl, hz]
                rfl
              · simp
              · show (if ln i = ln i then (f (ln i) z || f x z || decide (z = x)) else _) = true
                rw [if_pos rfl, fx z hz]
                simp
              · have hz' : (if ln i = ln i then (f (ln i) z || f x z || decide (z = x)) else f (ln i) z) = true := hz
                rw [if_pos rfl, Bool.or_eq_true, Bool.or_eq_true, decide_eq_true_iff] at hz'
                rcases hz' with (h | h) | h
                · exact .inl h
                · exact .inr (.inr (hf.snd _ _ h))
                · exact .inr (.inl h)) (by omega) (by have := K3'.le; omega) (by omega) Lk
          exact ⟨_, g', .inl e, _, rfl, L'⟩) ((Av L (ln i)).length + 1) 0 (sw n ln links (h.length + n) (ha.length + n) x4 (some (.int (ln i : Int)))) g (by omega) (by omega) ⟨x4, rfl, Lg⟩
      subst hs5
      rw [lAv] at L5
      refine ⟨_, h5, .inl ?_, z4, some (.int (ln i : Int)), rfl, L5.imp fun f hf => hf.next hi⟩
      have tp := Lg.ahd.1.top
      unfold sw at e5 ⊢
      simp [w3, tp, atI_nat a3, d, e5])
    ⟨x4, x5, rfl, L3⟩
  subst hs4
  rw [Nat.zero_add, ll] at L4
  obtain ⟨⟨f, rs, M, _, hf⟩, _, o, _⟩ := L4
  obtain ⟨h6, e6, k6⟩ := M.frz o (Nat.le_refl _) fun r hr => by
    obtain ⟨i, _, e⟩ := tb_mem.mp hr
    subst e
    exact List.all_eq_true.mpr fun y hy => by
      obtain ⟨j, _, e⟩ := tb_mem.mp hy
      subst e
      rfl
  have e7 : (rows n f).map MV.fls = tb n fun x => MV.fls (tb n fun y => .bl (f x y)) := by
    unfold rows
    rw [tb_map]
  rw [e7] at e6
  refine ⟨f, h6, ?_, fun y z hy => ⟨hf.snd y z, fun r => ?_⟩, k6⟩
  rotate_left
  · obtain ⟨i, hi, e⟩ := sur y hy
    rw [← e] at r ⊢
    exact hf.old i hi z r
  have hm : f_law_lower = defM 2 8 (seqS (setS 2 (bltM lenF (consA (varM 0) nilA)))
    (seqS (setS 3 (refM (lcM (rng1 (consA (varM 2) nilA)) [5] (one 5) yesT (refM (lcM (rng1 (consA (varM 2) nilA)) [4] (one 4) yesT (cM (.bl false)))))))
    (seqS (setS 6 (refM (lcM (rng1 (consA (varM 2) nilA)) [5] (one 5) yesT (refM (lstM nilA)))))
    (seqS (forM (seqI (varM 1)) (unp [4, 5]) w1)
    (seqS (forM (seqI (varM 0)) (one 5) w3) (retS (frzM (varM 3)))))))) := rfl
  rw [hm]
  have t1 : (setS 2 (bltM lenF (consA (varM 0) nilA))) [some (.fls (ptV n ln)), some (.fls links), none, none, none, none, none, none] h = some (.nx [some (.fls (ptV n ln)), some (.fls links), some (.int (n : Int)), none, none, none, none, none] h) := by simp [ll]
  have t2 : (setS 3 (refM (lcM (rng1 (consA (varM 2) nilA)) [5] (one 5) yesT (refM (lcM (rng1 (consA (varM 2) nilA)) [4] (one 4) yesT (cM (.bl false))))))) [some (.fls (ptV n ln)), some (.fls links), some (.int (n : Int)), none, none, none, none, none] h = some (.nx [some (.fls (ptV n ln)), some (.fls links), some (.int (n : Int)), some (.ref (h.length + n)), none, none, none, none] ha) := by
    rw [hha]
    simp [q, q', wipeM, e1]
  have t3 : (setS 6 (refM (lcM (rng1 (consA (varM 2) nilA)) [5] (one 5) yesT (refM (lstM nilA))))) [some (.fls (ptV n ln)), some (.fls links), some (.int (n : Int)), some (.ref (h.length + n)), none, none, none, none] ha = some (.nx (sw n ln links (h.length + n) (ha.length + n) none none) hb) := by
    rw [hhb]
    simp [q, q', wipeM, e2, sw]
  have t4 : (forM (seqI (varM 1)) (unp [4, 5]) w1) (sw n ln links (h.length + n) (ha.length + n) none none) hb = some (.nx (sw n ln links (h.length + n) (ha.length + n) x4 x5) h3) := by
    unfold sw at e3 ⊢
    simp [e3]
  have t5 : (forM (seqI (varM 0)) (one 5) w3) (sw n ln links (h.length + n) (ha.length + n) x4 x5) h3 = some (.nx (sw n ln links (h.length + n) (ha.length + n) y4 y5) h4) := by
    unfold sw at e4 ⊢
    simp [e4]
  have t6 : (retS (frzM (varM 3))) (sw n ln links (h.length + n) (ha.length + n) y4 y5) h4 = some (.ret (matV n n f) h6) := by
    unfold sw matV
    simp [e6]
  have T : (seqS (setS 2 (bltM lenF (consA (varM 0) nilA)))
    (seqS (setS 3 (refM (lcM (rng1 (consA (varM 2) nilA)) [5] (one 5) yesT (refM (lcM (rng1 (consA (varM 2) nilA)) [4] (one 4) yesT (cM (.bl false)))))))
    (seqS (setS 6 (refM (lcM (rng1 (consA (varM 2) nilA)) [5] (one 5) yesT (refM (lstM nilA)))))
    (seqS (forM (seqI (varM 1)) (unp [4, 5]) w1)
    (seqS (forM (seqI (varM 0)) (one 5) w3) (retS (frzM (varM 3)))))))) [some (.fls (ptV n ln)), some (.fls links), none, none, none, none, none, none] h = some (.ret (matV n n f) h6) := by
    rw [seq_nx t1, seq_nx t2, seq_nx t3, seq_nx t4, seq_nx t5, t6]
  exact defM_ret rfl rfl T
end Mi.k03
set_option maxHeartbeats 4000000
namespace Mi.k03
open PySem L2
theorem bitAnd_nat (a b : Nat) : Builtin.bitAnd (a : Int) (b : Int) = ((a &&& b : Nat) : Int) := by
  unfold Builtin.bitAnd
  simp only [decide_eq_true (Int.natCast_nonneg a), decide_eq_true (Int.natCast_nonneg b), Int.toNat_natCast]
theorem fib_congr {n : Nat} {c d : Nat → Bool} (h : ∀ i, i < n → c i = d i) : fib n c = fib n d := by
  unfold fib
  rw [List.filter_congr fun x hx => h x (List.mem_range.mp hx)]
theorem shr_bit {m k : Nat} : ((m : Int) / 2 ^ k) = ((m >>> k : Nat) : Int) := by
  rw [Nat.shiftRight_eq_div_pow]
  simp
theorem bit1 {m k : Nat} : (m >>> k) &&& 1 = if m.testBit k then 1 else 0 := by
  unfold Nat.testBit
  rw [Nat.and_comm, Nat.one_and_eq_mod_two]
  rcases Nat.mod_two_eq_zero_or_one (m >>> k) with e | e <;> simp [e]
/-- m >> k & 1, as a test -/
theorem tst_bit {a b : ME} {s : MS} {h : MH} {m k : Nat} (ha : a s h = ok (.int (m : Int)) h) (hb : b s h = ok (.int (k : Int)) h) : (truM (opM andF (opM shrF a b) (cM (.int 1)))) s h = ok (m.testBit k) h := by
  have e : Builtin.bitAnd ((m >>> k : Nat) : Int) 1 = (((m >>> k) &&& 1 : Nat) : Int) := bitAnd_nat _ 1
  rw [bit1] at e
  have e0 : ((m : Int) / 2 ^ k) = ((m >>> k : Nat) : Int) := shr_bit
  obtain ⟨q, hq⟩ : ∃ q : Nat, m >>> k = q := ⟨_, rfl⟩
  rw [hq] at e e0
  cases c : m.testBit k with
  | true =>
    rw [c] at e
    have e' : Builtin.bitAnd (q : Int) 1 = 1 := e
    simp [ha, hb, e0, e']
  | false =>
    rw [c] at e
    have e' : Builtin.bitAnd (q : Int) 1 = 0 := e
    simp [ha, hb, e0, e']
/-! all ways -/
noncomputable def wi : MT := (ifS (truM (opM andF (opM shrF (opM ixF (varM 2) (varM 4)) (varM 3)) (cM (.int 1)))) (subS (opM orF (opM ixF (varM 2) (varM 4)) (opM ixF (varM 2) (varM 3))) (varM 2) (varM 4)) nilS)
def stW (n L : Nat) (x1 x3 x4 : Option MV) : MS := [some (.int (n : Int)), x1, some (.ref L), x3, x4]
def up1 (M : Nat → Nat) (k : Nat) (x : Nat) : Nat := if (M x).testBit k then M x ||| M k else M x
theorem up1_k {M : Nat → Nat} {k : Nat} : up1 M k k = M k := by
  unfold up1
  by_cases c : (M k).testBit k = true
  · rw [if_pos c, Nat.or_self]
  · rw [if_neg c]
def part (M : Nat → Nat) (k j : Nat) (x : Nat) : Nat := if x < j then up1 M k x else M x
theorem wi_ {n L k x : Nat} {M : Nat → Nat} {x1 x4 : Option MV} {h : MH} (hk : k < n) (hx : x < n) (hl : h[L]? = some (.lst (mV n (part M k x)))) :
    ∃ h', turnM (one 4) wi (.int (x : Int)) (stW n L x1 (some (.int (k : Int))) x4) h = some (.nx (stW n L x1 (some (.int (k : Int))) (some (.int (x : Int)))) h') ∧ h'[L]? = some (.lst (mV n (part M k (x + 1)))) ∧ Keep (fun j => j = L) h h' := by
  have px : part M k x x = M x := if_neg (Nat.lt_irrefl _)
  have pk : part M k x k = M k := by
    unfold part
    by_cases c : k < x
    · rw [if_pos c, up1_k]
    · rw [if_neg c]
  have b1 : atI (mV n (part M k x)) (x : Int) = some (.int (M x : Int)) := by
    have := atI_nat (tb_get (F := fun i => MV.int (part M k x i : Int)) hx)
    rw [px] at this
    exact this
  have b2 : atI (mV n (part M k x)) (k : Int) = some (.int (M k : Int)) := by
    have := atI_nat (tb_get (F := fun i => MV.int (part M k x i : Int)) hk)
    rw [pk] at this
    exact this
  have ii : ixN n (x : Int) = some x := ixN_nat hx
  have ll : (mV n (part M k x)).length = n := tb_len
  have t := tst_bit (a := opM ixF (varM 2) (varM 4)) (b := varM 3) (s := stW n L x1 (some (.int (k : Int))) (some (.int (x : Int)))) (h := h) (m := M x) (k := k) (by simp [stW, hl, b1]) (by simp [stW])
  have step : ∀ v, v = up1 M k x → (mV n (part M k x)).set x (.int (v : Int)) = mV n (part M k (x + 1)) := fun v hv => by
    rw [mV_set]
    refine tb_congr fun i _ => ?_
    have : (if i = x then v else part M k x i) = part M k (x + 1) i := by
      unfold part
      by_cases c : i = x
      · subst c
        rw [if_pos rfl, if_pos (by omega), hv]
      · rw [if_neg c]
        by_cases d : i < x
        · rw [if_pos d, if_pos (by omega)]
        · rw [if_neg d, if_neg (by omega)]
    exact congrArg (fun z : Nat => MV.int (z : Int)) this
  show ∃ h', wi (stW n L x1 (some (.int (k : Int))) (some (.int (x : Int)))) h = _ ∧ _
  cases c : (M x).testBit k with
  | true =>
    rw [c] at t
    have e := step (M x ||| M k) (by unfold up1; rw [if_pos c])
    refine ⟨h.set L (.lst (mV n (part M k (x + 1)))), ?_, get_set hl, (Keep.refl h).set fun _ => rfl⟩
    have e2 : wi (stW n L x1 (some (.int (k : Int))) (some (.int (x : Int)))) h = (subS (opM orF (opM ixF (varM 2) (varM 4)) (opM ixF (varM 2) (varM 3))) (varM 2) (varM 4)) (stW n L x1 (some (.int (k : Int))) (some (.int (x : Int)))) h := by
      show bndS _ _ = _
      rw [t]
      rfl
    rw [e2, ← e]
    simp [stW, hl, b1, b2, bitOr_nat, ll, ii]
  | false =>
    rw [c] at t
    have e : mV n (part M k x) = mV n (part M k (x + 1)) := by
      have := step (M x) (by unfold up1; rw [c]; rfl)
      rw [← this, mV_set]
      refine tb_congr fun i _ => ?_
      have : part M k x i = (if i = x then M x else part M k x i) := by
        by_cases d : i = x
        · subst d
          rw [if_pos rfl, px]
        · rw [if_neg d]
      exact congrArg (fun z : Nat => MV.int (z : Int)) this
    refine ⟨h, ?_, by rw [← e]; exact hl, Keep.refl _⟩
    show bndS _ _ = _
    rw [t]
    rfl
/-- what is known of the masks behind k rounds -/
structure Wa (n : Nat) (P : List (Nat × Nat)) (k : Nat) (M : Nat → Nat) : Prop where
  snd : ∀ x y, (M x).testBit y = true → Rch P x y
  has : ∀ x y, x < n → (x, y) ∈ P → (M x).testBit y = true
  cls : ∀ x y z, x < n → z < k → (M x).testBit z = true → (M z).testBit y = true → (M x).testBit y = true
theorem up1_bit {M : Nat → Nat} {k x y : Nat} : (up1 M k x).testBit y = true ↔ (M x).testBit y = true ∨ ((M x).testBit k = true ∧ (M k).testBit y = true) := by
  unfold up1
  by_cases c : (M x).testBit k = true
  · rw [if_pos c, Nat.testBit_or, Bool.or_eq_true]
    exact ⟨fun z => z.imp id fun z => ⟨c, z⟩, fun z => z.imp id fun z => z.2⟩
  · rw [if_neg c]
    exact ⟨.inl, fun z => z.elim id fun z => absurd z.1 c⟩
theorem Wa.next {n k : Nat} {P : List (Nat × Nat)} {M : Nat → Nat} (w : Wa n P k M) (hk : k < n) : Wa n P (k + 1) (up1 M k) where
  snd := fun x y h => by
    rcases up1_bit.mp h with h | ⟨h1, h2⟩
    · exact w.snd x y h
    · exact (w.snd x k h1).trans (w.snd k y h2)
  has := fun x y hx h => up1_bit.mpr (.inl (w.has x y hx h))
  cls := fun x y z hx hz h1 h2 => by
    by_cases c : z = k
    · subst c
      have a1 : (M x).testBit z = true := (up1_bit.mp h1).elim id fun q => q.1
      have a2 : (M z).testBit y = true := (up1_bit.mp h2).elim id fun q => q.2
      exact up1_bit.mpr (.inr ⟨a1, a2⟩)
    · have hz : z < k := by omega
      rcases up1_bit.mp h1 with a | ⟨a, b⟩
      · rcases up1_bit.mp h2 with e | ⟨e, f⟩
        · exact up1_bit.mpr (.inl (w.cls x y z hx hz a e))
        · exact up1_bit.mpr (.inr ⟨w.cls x k z hx hz a e, f⟩)
      · rcases up1_bit.mp h2 with e | ⟨e, f⟩
        · exact up1_bit.mpr (.inr ⟨a, w.cls k y z hk hz b e⟩)
        · exact up1_bit.mpr (.inr ⟨a, f⟩)
theorem Wa.all {n : Nat} {P : List (Nat × Nat)} {M : Nat → Nat} (w : Wa n P n M) (hP : ∀ p ∈ P, p.1 < n ∧ p.2 < n) {x y : Nat} : (M x).testBit y = true ↔ Rch P x y := by
  refine ⟨w.snd x y, fun r => ?_⟩
  have : ∀ {x y}, Rch P x y → x < n ∧ y < n := fun r => by
    induction r with
    | one h => exact hP _ h
    | step _ h ih => exact ⟨ih.1, (hP _ h).2⟩
  induction r with
  | one h => exact w.has _ _ (hP _ h).1 h
  | step a h ih => exact w.cls _ _ _ (this a).1 (this a).2 ih (w.has _ _ (this a).2 h)
theorem ways {h : MH} {n : Nat} {P : List (Nat × Nat)} (hn : n ≤ 64) (hP : ∀ p ∈ P, p.1 < n ∧ p.2 < n) : ∃ M h', f_ways [.int (n : Int), .tup (P.map prV)] h = ok (.fls (mV n M)) h' ∧ (∀ x y, x < n → ((M x).testBit y = true ↔ Rch P x y)) ∧ Keep (fun _ => False) h h' := by
  have q : (n : Int) ≤ 1000000 := by omega
  have q' : (-1000000 : Int) ≤ n := by omega
  have l2 : 2 ≤ lim := by unfold lim; omega
  obtain ⟨M0, h1, e1, b1, k1⟩ := high_masksL (h := h) hn hP
  have wa0 : Wa n P 0 (fun x => if x < n then M0 x else 0) := by
    refine ⟨fun x y hb => ?_, fun x y hx hp => ?_, fun x y z hx hz => absurd hz (Nat.not_lt_zero _)⟩
    · by_cases c : x < n
      · simp only [if_pos c] at hb
        exact .one ((b1 x y c).mp hb)
      · simp only [if_neg c, Nat.zero_testBit] at hb
        cases hb
    · simp only [if_pos hx]
      exact (b1 x y hx).mpr hp
  obtain ⟨s', h2, e2, y3, y4, M, hs, top, wa, k2⟩ := for_run (g := one 3) (m := forM (rng1 (consA (varM 0) nilA)) (one 4) wi) (a := 0) (n := n) (s := stW n h1.length (some (.tup (P.map prV))) none none) (h := h1 ++ [.lst (mV n M0)])
    (fun k s g => ∃ y3 y4 M, s = stW n h1.length (some (.tup (P.map prV))) y3 y4 ∧ g[h1.length]? = some (.lst (mV n M)) ∧ Wa n P k (fun x => if x < n then M x else 0) ∧ Keep (fun _ => False) h1 g)
    ⟨none, none, M0, rfl, get_app, wa0, keeps _⟩
    (fun k s g hk ⟨y3, y4, M, hs, top, wa, kg⟩ => by
      subst hs
      obtain ⟨s3, g3, e3, z4, hs3, top3, kg3⟩ := for_run (g := one 4) (m := wi) (a := 0) (n := n) (s := stW n h1.length (some (.tup (P.map prV))) (some (.int (k : Int))) y4) (h := g)
        (fun x s g => ∃ y4, s = stW n h1.length (some (.tup (P.map prV))) (some (.int (k : Int))) y4 ∧ g[h1.length]? = some (.lst (mV n (part M k x))) ∧ Keep (fun _ => False) h1 g) ⟨_, rfl, top, kg⟩
        (fun x s g hx ⟨y4, hs, top, kg⟩ => by
          subst hs
          obtain ⟨g', e, t, k'⟩ := wi_ (x1 := some (.tup (P.map prV))) (x4 := y4) hk hx top
          rw [Int.zero_add]
          exact ⟨_, g', .inl e, _, rfl, t, ((kg.weak fun _ _ z => z.elim).trans k').weak fun j hj (e : j = h1.length) => absurd e (by omega)⟩)
      subst hs3
      have e5 : mV n (part M k n) = mV n (up1 (fun x => if x < n then M x else 0) k) := tb_congr fun i hi => by
        have : part M k n i = up1 (fun x => if x < n then M x else 0) k i := by
          unfold part up1
          simp only [if_pos hi, if_pos hk]
        rw [this]
      rw [e5] at top3
      refine ⟨stW n h1.length (some (.tup (P.map prV))) (some (.int (k : Int))) z4, g3, .inl ?_, _, _, _, rfl, top3, ?_, kg3⟩
      · rw [Int.zero_add]
        unfold stW at e3 ⊢
        simp [q, q', e3]
      · have w := wa.next hk
        refine ⟨fun x y hb => ?_, fun x y hx hp => ?_, fun x y z hx hz a b => ?_⟩
        · by_cases c : x < n
          · simp only [if_pos c] at hb
            exact w.snd x y hb
          · simp only [if_neg c, Nat.zero_testBit] at hb
            cases hb
        · simp only [if_pos hx]
          exact w.has x y hx hp
        · simp only [if_pos hx] at a ⊢
          by_cases c : z < n
          · simp only [if_pos c] at b
            exact w.cls x y z hx hz a b
          · omega)
  subst hs
  have fl : (mV n M).all flatT = true := by
    rw [List.all_eq_true]
    intro z hz
    obtain ⟨i, _, e⟩ := tb_mem.mp hz
    subst e
    rfl
  have e4 := frz_lst 2 top fl
  refine ⟨M, h2.set h1.length .dead, ?_, fun x y hx => ?_, k1.trans (k2.set fun z => absurd z (Nat.lt_irrefl _))⟩
  · have hm : f_ways = defM 2 5 (seqS (setS 2 (refM (bltL lstF (consA (callM f_high_masks [] (consA (tupM (consA (varM 0) (consA (varM 1) nilA))) nilA)) nilA)))) (seqS (forM (rng1 (consA (varM 0) nilA)) (one 3) (forM (rng1 (consA (varM 0) nilA)) (one 4) wi)) (retS (frzM (varM 2))))) := rfl
    rw [hm]
    unfold stW at e2
    have e4' : frzV 4 (.ref h1.length) h2 = some (.fls (mV n M), h2.set h1.length .dead) := e4
    simp [l2, e1, q, q', e2, e4']
  · have := wa.all hP (x := x) (y := y)
    simp only [if_pos hx] at this
    exact this
end Mi.k03
set_option maxHeartbeats 4000000
namespace Mi.k03
open PySem L2
/-- two fors, the inner walk lays things of its own -/
theorem lc2_keep {α β : Type} {val : α → MV} {valy : β → MV} {ys : α → List β} {e : α → β → MV} {g g1 : MV → MS → Option MS} {mi1 : MM MIter} {vs1 : List Nat} {el : ME} {s0 : MS} {l : Nat} : ∀ {xs : List α} {acc : List MV} {h : MH}, h[l]? = some (.lst acc) →
    (∀ x ∈ xs, ∃ s1, g (val x) s0 = some s1 ∧ (∀ h, ∃ h', mi1 s1 h = ok (.st ((ys x).map valy)) h' ∧ Keep (fun _ => False) h h') ∧ ∀ y ∈ ys x, ∃ s2, g1 (valy y) (wipeM s1 vs1) = some s2 ∧ ∀ h, el s2 h = ok (e x y) h) → acc.length + (xs.flatMap fun x => (ys x).map (e x)).length ≤ lim →
    ∃ h', lc2S g yesT mi1 vs1 g1 yesT el s0 l (xs.map val) h = ok (.ref l) h' ∧ h'[l]? = some (.lst (acc ++ xs.flatMap fun x => (ys x).map (e x))) ∧ Keep (fun j => j = l) h h'
  | [], acc, h, hl, _, _ => ⟨h, rfl, by rw [List.flatMap_nil, List.append_nil]; exact hl, Keep.refl _⟩
  | x :: xs, acc, h, hl, hs, hn => by
    obtain ⟨s1, e1, e2, e3⟩ := hs x (List.mem_cons_self ..)
    obtain ⟨h1, e2, k1⟩ := e2 h
    have hl1 := k1.get hl fun z => z
    rw [List.flatMap_cons, List.length_append, List.length_map] at hn
    obtain ⟨h2, e4, l4, k4⟩ := lc2_keep (g := g) (g1 := g1) (mi1 := mi1) (vs1 := vs1) (el := el) (s0 := s0) (l := l) (e := e) (xs := xs) (acc := acc ++ (ys x).map (e x)) (h := h1.set l (.lst (acc ++ (ys x).map (e x)))) (get_set hl1) (fun y hy => hs y (List.mem_cons_of_mem _ hy)) (by rw [List.length_append, List.length_map]; omega)
    refine ⟨h2, ?_, by rw [l4, List.flatMap_cons, List.append_assoc], ((k1.weak (Q := fun j => j = l) fun _ _ z => z.elim).set fun _ => rfl).trans k4⟩
    rw [List.map_cons]
    unfold lc2S
    rw [e1]
    show (ok true h).bnd _ = _
    rw [bnd_ok, if_pos rfl, e2, bnd_ok]
    show liS g1 yesT el _ _ _ _ _ = _
    rw [liS_pure hl1 e3 (by omega), e4]
theorem frz_lc2K {α β : Type} {val : α → MV} {valy : β → MV} {xs : List α} {ys : α → List β} {e : α → β → MV} {g g1 : MV → MS → Option MS} {mi mi1 : MM MIter} {vs vs1 : List Nat} {el : ME} {s : MS} {h : MH} (hm : mi s h = ok (.st (xs.map val)) h)
    (hs : ∀ x ∈ xs, ∃ s1, g (val x) (wipeM s vs) = some s1 ∧ (∀ h, ∃ h', mi1 s1 h = ok (.st ((ys x).map valy)) h' ∧ Keep (fun _ => False) h h') ∧ ∀ y ∈ ys x, ∃ s2, g1 (valy y) (wipeM s1 vs1) = some s2 ∧ ∀ h, el s2 h = ok (e x y) h) (hn : (xs.flatMap fun x => (ys x).map (e x)).length ≤ lim) (hf : ∀ x ∈ xs, ∀ y ∈ ys x, flatT (e x y) = true) :
    ∃ h', frzM (lc2M mi vs g yesT mi1 vs1 g1 yesT el) s h = ok (.fls (xs.flatMap fun x => (ys x).map (e x))) h' ∧ Keep (fun _ => False) h h' := by
  obtain ⟨h1, e1, l1, k1⟩ := lc2_keep (g := g) (g1 := g1) (mi1 := mi1) (vs1 := vs1) (el := el) (s0 := wipeM s vs) (l := h.length) (e := e) (xs := xs) (val := val) (ys := ys) (valy := valy) (acc := []) (h := h ++ [.lst []]) get_app hs (by simpa using hn)
  rw [List.nil_append] at l1
  have fl : (xs.flatMap fun x => (ys x).map (e x)).all flatT = true := by
    rw [List.all_eq_true]
    intro z hz
    obtain ⟨x, hx, hz⟩ := List.mem_flatMap.mp hz
    obtain ⟨y, hy, rfl⟩ := List.mem_map.mp hz
    exact hf x hx y hy
  have e3 := frz_lst 2 l1 fl
  refine ⟨h1.set h.length .dead, ?_, (((keeps (P := fun j => j = h.length) [.lst []]).trans k1).set fun _ => rfl).weak fun j hj (e : j = h.length) => absurd e (by omega)⟩
  show ((lc2M mi vs g yesT mi1 vs1 g1 yesT el s h).bnd _) = _
  unfold lc2M
  rw [hm, bnd_ok]
  dsimp only
  rw [e1, bnd_ok, e3]
theorem enm_tb {n : Nat} {F : Nat → MV} : enmOf 0 (tb n F) = tb n fun i => .tup [.int (i : Int), F i] := List.ext_getElem? fun k => by
  rw [enm_get, Nat.zero_add]
  by_cases h : k < n
  · rw [tb_get h, tb_get h]
    rfl
  · rw [List.getElem?_eq_none (by rw [tb_len]; omega), List.getElem?_eq_none (by rw [tb_len]; omega)]
    rfl
/-- the numbers below n for which c holds -/
theorem is_link {n : Nat} {p : Nat × Nat} {h : MH} (h1 : p.1 < n) (h2 : p.2 < n) : f_is_link [.int (n : Int), prV p] h = ok (.bl true) h := by
  have c1 : (p.1 : Int) < n := by omega
  have c2 : (p.2 : Int) < n := by omega
  simp [f_is_link, m_is_link, prV, h1, h2, c1, c2]
theorem order_of {h : MH} {n : Nat} {P : List (Nat × Nat)} {R : Nat → Nat → Bool} (hn : n ≤ 64) (hP : ∀ p ∈ P, p.1 < n ∧ p.2 < n) (hR : ∀ x y, x < n → (R x y = true ↔ Rch P x y)) (irr : ∀ x, x < n → R x x = false) : ∃ h', f_order_of [.int (n : Int), .tup (P.map prV)] h = ok (ord n R) h' ∧ Keep (fun _ => False) h h' := by
  have q : (n : Int) ≤ 1000000 := by omega
  have q' : (-1000000 : Int) ≤ n := by omega
  have l2 : 2 ≤ lim := by unfold lim; omega
  obtain ⟨s', h0, e0, ⟨x2, hs⟩, hh⟩ := forS_ok (bd := turnM (one 2) (ifS (notT (truM (callM f_is_link [] (consA (varM 0) (consA (varM 2) nilA))))) neverS nilS)) (fun i s g => (∃ x2, s = [some (.int (n : Int)), some (.tup (P.map prV)), x2, none, none, none, none, none]) ∧ g = h) (xs := P.map prV) (i0 := 0) (s := [some (.int (n : Int)), some (.tup (P.map prV)), none, none, none, none, none, none]) (h := h)
    (fun i x s g hx ⟨⟨x2, hs⟩, hh⟩ => by
      subst hs hh
      rw [List.getElem?_map] at hx
      obtain ⟨p, ep, ex⟩ := Option.map_eq_some_iff.mp hx
      subst ex
      obtain ⟨h1, h2⟩ := hP p (List.mem_of_getElem? ep)
      have e := is_link (h := g) h1 h2
      exact ⟨_, g, .inl (by simp [e]), ⟨some (prV p), rfl⟩, rfl⟩) ⟨⟨none, rfl⟩, rfl⟩
  subst hs hh
  obtain ⟨M, h1, e1, b1, k1⟩ := ways (h := h0) hn hP
  have inP : ∀ {x y}, Rch P x y → x < n ∧ y < n := fun r => by
    induction r with
    | one h => exact hP _ h
    | step _ h ih => exact ⟨ih.1, (hP _ h).2⟩
  have bt : ∀ x, x < n → ∀ y, (M x).testBit y = (decide (y < n) && R x y) := fun x hx y => by
    rw [Bool.eq_iff_iff, b1 x y hx, Bool.and_eq_true, decide_eq_true_iff, hR x y hx]
    exact ⟨fun r => ⟨(inP r).2, r⟩, fun r => r.2⟩
  have e2 := lc_run (g := one 5) (cd := truM (opM andF (opM shrF (opM ixF (varM 3) (varM 5)) (varM 5)) (cM (.int 1)))) (el := varM 5) (s0 := [some (.int (n : Int)), some (.tup (P.map prV)), x2, some (.fls (mV n M)), none, none, none, none]) (h := h1) (n := n) (fun _ => false) (fun i => .int (i : Int)) (by unfold lim; omega) fun i hi => ⟨_, rfl, by
    have at_ : atI (mV n M) (i : Int) = some (.int (M i : Int)) := atI_nat (tb_get (F := fun i => MV.int (M i : Int)) hi)
    rw [tst_bit (m := M i) (k := i) (by simp [at_]) (by simp), bt i hi, irr i hi, Bool.and_false], fun _ => rfl⟩
  rw [List.filter_eq_nil_iff.mpr fun _ _ => Bool.false_ne_true, List.map_nil] at e2
  obtain ⟨h2, e3, k3⟩ := frz_lc2K (mi := enmI (consA (varM 3) nilA)) (vs := [5, 6, 7]) (g := unp [5, 6]) (mi1 := seqI (callM f_points_in [] (consA (varM 6) nilA))) (vs1 := [7]) (g1 := one 7) (el := tupM (consA (varM 5) (consA (varM 7) nilA)))
    (s := [some (.int (n : Int)), some (.tup (P.map prV)), x2, some (.fls (mV n M)), some (.tup []), none, none, none]) (h := h1) (val := fun (i : Nat) => MV.tup [.int (i : Int), .int (M i : Int)]) (valy := fun (i : Nat) => MV.int (i : Int)) (xs := List.range n) (ys := fun x => (List.range n).filter (R x)) (e := fun x y => prV (x, y))
    (by
      have : enmOf 0 (mV n M) = (List.range n).map fun (i : Nat) => MV.tup [.int (i : Int), .int (M i : Int)] := enm_tb
      simp [stOf, this])
    (fun x hx => ⟨_, rfl, fun h => by
      have hx := List.mem_range.mp hx
      have hlt : M x < 2 ^ n := Nat.lt_pow_two_of_testBit _ fun j hj => by rw [bt x hx, decide_eq_false (by omega), Bool.false_and]
      obtain ⟨h', e, k⟩ := points_in (h := h) hn hlt
      have ef : fib n (M x).testBit = fib n (R x) := fib_congr fun y hy => by rw [bt x hx, decide_eq_true hy, Bool.true_and]
      rw [ef] at e
      refine ⟨h', ?_, k⟩
      simp [wipeM, e]
      rfl, fun y _ => ⟨_, rfl, fun h => by simp [wipeM, prV, l2]⟩⟩) (by
      have := PS_lim (R := R) hn
      unfold PS at this
      unfold lim
      refine Nat.le_trans ?_ (show 4096 ≤ 1000000 by omega)
      refine Nat.le_trans (Nat.le_of_eq ?_) this
      rw [List.length_flatMap, List.length_flatMap]
      simp only [List.length_map]) (fun _ _ _ _ => rfl)
  have e4 : ((List.range n).flatMap fun x => ((List.range n).filter (R x)).map fun y => prV (x, y)) = (PS n R).map prV := by
    unfold PS
    rw [List.map_flatMap]
    simp only [List.map_map]
    rfl
  rw [e4] at e3
  refine ⟨h2, ?_, k1.trans k3⟩
  have hm : f_order_of = defM 2 8 (seqS (forM (seqI (varM 1)) (one 2) (ifS (notT (truM (callM f_is_link [] (consA (varM 0) (consA (varM 2) nilA))))) neverS nilS))
    (seqS (setS 3 (callM f_ways [] (consA (varM 0) (consA (varM 1) nilA))))
    (seqS (setS 4 (bltM tupF (consA (flsM (lcM (rng1 (consA (varM 0) nilA)) [5] (one 5) (truM (opM andF (opM shrF (opM ixF (varM 3) (varM 5)) (varM 5)) (cM (.int 1)))) (varM 5))) nilA)))
    (seqS (ifS (truM (varM 4)) neverS nilS)
    (retS (tupM (consA (varM 0) (consA (bltM tupF (consA (frzM (lc2M (enmI (consA (varM 3) nilA)) [5, 6, 7] (unp [5, 6]) yesT (seqI (callM f_points_in [] (consA (varM 6) nilA))) [7] (one 7) yesT (tupM (consA (varM 5) (consA (varM 7) nilA))))) nilA)) nilA)))))))) := rfl
  obtain ⟨F, hF⟩ : ∃ F : ME, frzM (lc2M (enmI (consA (varM 3) nilA)) [5, 6, 7] (unp [5, 6]) yesT (seqI (callM f_points_in [] (consA (varM 6) nilA))) [7] (one 7) yesT (tupM (consA (varM 5) (consA (varM 7) nilA)))) = F := ⟨_, rfl⟩
  obtain ⟨G, hG⟩ : ∃ G : MT, (ifS (notT (truM (callM f_is_link [] (consA (varM 0) (consA (varM 2) nilA))))) neverS nilS) = G := ⟨_, rfl⟩
  rw [hF] at hm e3
  rw [hG] at hm e0
  rw [hm]
  unfold ord
  simp [e0, e1, q, q', wipeM, e2, e3, l2]
def cov (n : Nat) (R : Nat → Nat → Bool) (x y : Nat) : Bool := R x y && !(List.range n).any fun z => R x z && R z y
theorem covers_ {h : MH} {n : Nat} {R : Nat → Nat → Bool} (hn : n ≤ 64) : ∃ h', f_covers [ord n R] h = ok (.tup ((PS n (cov n R)).map prV)) h' ∧ Keep (fun _ => False) h h' := by
  have l2 : 2 ≤ lim := by unfold lim; omega
  obtain ⟨M1, h1, e1, b1, k1⟩ := high_masks_ (h := h) (R := R) hn
  obtain ⟨M2, h2, e2, b2, k2⟩ := low_masks_ (h := h1) (R := R) hn
  refine ⟨h2, ?_, k1.trans k2⟩
  have zero : ∀ x y, x < n → y < n → decide (((M1 x &&& M2 y : Nat) : Int) = 0) = !(List.range n).any fun z => R x z && R z y := fun x y hx hy => by
    rw [Bool.eq_iff_iff, decide_eq_true_iff, Bool.not_eq_true', List.any_eq_false]
    constructor
    · intro e z hz he
      have hz := List.mem_range.mp hz
      obtain ⟨a, b⟩ := Bool.and_eq_true _ _ |>.mp he
      have : (M1 x &&& M2 y).testBit z = true := by
        rw [Nat.testBit_and, (b1 x z hx).mpr ⟨hz, a⟩, (b2 y z hy).mpr ⟨hz, b⟩]
        rfl
      rw [show M1 x &&& M2 y = 0 by omega, Nat.zero_testBit] at this
      cases this
    · intro a
      have : M1 x &&& M2 y = 0 := Nat.eq_of_testBit_eq fun z => by
        rw [Nat.testBit_and, Nat.zero_testBit, Bool.eq_false_iff]
        intro he
        obtain ⟨p, q⟩ := Bool.and_eq_true _ _ |>.mp he
        have p := (b1 x z hx).mp p
        have q := (b2 y z hy).mp q
        exact a z (List.mem_range.mpr p.1) (by rw [p.2, q.2]; rfl)
      omega
  have e3 := lcS_pure (g := unp [3, 4]) (cd := tstM (opM eqF (opM andF (opM ixF (varM 1) (varM 3)) (opM ixF (varM 2) (varM 4))) (cM (.int 0)))) (el := tupM (consA (varM 3) (consA (varM 4) nilA))) (s0 := [some (ord n R), some (.tup (mV n M1)), some (.tup (mV n M2)), none, none]) (h := h2) (fun z => match z with | .tup [.int a, .int b] => !(List.range n).any fun z => R a.toNat z && R z b.toNat | _ => false) (fun z => z) (xs := (PS n R).map prV) (acc := []) (fun z hz => by
    obtain ⟨p, hp, ez⟩ := List.mem_map.mp hz
    subst ez
    obtain ⟨hx, hy, _⟩ := PS_mem.mp hp
    have x1 : atI (mV n M1) (p.1 : Int) = some (.int (M1 p.1 : Int)) := atI_nat (tb_get (F := fun i => MV.int (M1 i : Int)) hx)
    have x2 : atI (mV n M2) (p.2 : Int) = some (.int (M2 p.2 : Int)) := atI_nat (tb_get (F := fun i => MV.int (M2 i : Int)) hy)
    have zz := zero p.1 p.2 hx hy
    refine ⟨_, rfl, ?_, fun _ => ?_⟩
    · show _ = ok (!(List.range n).any fun z => R (p.1 : Int).toNat z && R z (p.2 : Int).toNat) h2
      rw [Int.toNat_natCast, Int.toNat_natCast, ← zz]
      obtain ⟨m, hm⟩ : ∃ m, M1 p.1 &&& M2 p.2 = m := ⟨_, rfl⟩
      rw [hm]
      simp [prV, x1, x2, bitAnd_nat, eqB, hm]
    · simp [prV, l2]) (by
      rw [List.length_map]
      have := PS_lim (R := R) hn
      unfold lim
      show 0 + _ ≤ _
      omega)
  rw [List.nil_append, List.map_id', List.filter_map] at e3
  have e4 : (PS n R).filter ((fun z : MV => match z with | .tup [.int a, .int b] => !(List.range n).any fun z => R a.toNat z && R z b.toNat | _ => false) ∘ prV) = PS n (cov n R) := by
    refine ss_ext (PS_ss.filter _) PS_ss fun p => ?_
    rw [List.mem_filter, PS_mem, PS_mem]
    show (_ ∧ (!(List.range n).any fun z => R (p.1 : Int).toNat z && R z (p.2 : Int).toNat) = true) ↔ _
    rw [Int.toNat_natCast, Int.toNat_natCast]
    unfold cov
    rw [Bool.and_eq_true]
    exact ⟨fun ⟨⟨a, b, c⟩, d⟩ => ⟨a, b, c, d⟩, fun ⟨a, b, c, d⟩ => ⟨⟨a, b, c⟩, d⟩⟩
  rw [e4] at e3
  have a1 : atI [MV.int (n : Int), .tup ((PS n R).map prV)] (1 : Int) = some (.tup ((PS n R).map prV)) := rfl
  unfold ord at e1 e2 e3 ⊢
  simp [f_covers, m_covers, a1, e1, e2, wipeM, e3]
end Mi.k03
set_option maxHeartbeats 4000000
namespace Mi.k03
open PySem L2
/-! pairs among pairs -/
def pd (p : Nat × Nat) : PyData := .tuple [.int (p.1 : Int), .int (p.2 : Int)]
theorem py_pr {p : Nat × Nat} : pyOf (prV p) = some (pd p) := rfl
theorem pys_pr : ∀ {D : List (Nat × Nat)}, pysOf (D.map prV) = some (D.map pd)
  | [] => rfl
  | p :: D => by
    rw [List.map_cons, List.map_cons]
    unfold pysOf
    rw [py_pr, pys_pr]
theorem lay_pr : ∀ {D : List (Nat × Nat)}, PyData.canLayAll0 (D.map pd) = true
  | [] => rfl
  | p :: D => by
    rw [List.map_cons]
    unfold PyData.canLayAll0
    rw [lay_pr (D := D)]
    rfl
theorem dep_pr : ∀ {D : List (Nat × Nat)}, PyData.depthAll (D.map pd) ≤ 5
  | [] => by simp [PyData.depthAll]
  | p :: D => by
    have := dep_pr (D := D)
    rw [List.map_cons]
    unfold PyData.depthAll
    have e : PyData.depth (pd p) ≤ 5 := by simp [pd, PyData.depth, PyData.depthAll]
    omega
theorem shp_pr {D : List (Nat × Nat)} : SeqAt.shaped (.list (D.map pd)) = true := by
  unfold SeqAt.shaped
  rw [Bool.and_eq_true, decide_eq_true_iff]
  refine ⟨?_, ?_⟩
  · show PyData.canLayAll0 (D.map pd) = true
    exact lay_pr
  · have := dep_pr (D := D)
    unfold PyData.depth
    omega
theorem shp_p {p : Nat × Nat} : SeqAt.shaped (pd p) = true := by
  unfold SeqAt.shaped
  rw [Bool.and_eq_true, decide_eq_true_iff]
  exact ⟨rfl, by simp [pd, PyData.depth, PyData.depthAll]⟩
theorem eqv_pr {p q : Nat × Nat} : PyData.eqv (pd p) (pd q) = decide (p = q) := by
  show (((p.1 : Int) == (q.1 : Int)) && (((p.2 : Int) == (q.2 : Int)) && true)) = _
  rw [Bool.eq_iff_iff, Bool.and_true, Bool.and_eq_true, beq_iff_eq, beq_iff_eq, decide_eq_true_iff]
  constructor
  · rintro ⟨a, b⟩
    exact Prod.ext (by omega) (by omega)
  · rintro rfl
    exact ⟨rfl, rfl⟩
theorem in_pr {h : MH} {y : MV} {p : Nat × Nat} {D : List (Nat × Nat)} (e : seqOf h y = some (D.map prV)) : inDB h (prV p) y = some (decide (p ∈ D)) := by
  unfold inDB
  rw [py_pr, e, Option.bind_some, pys_pr]
  dsimp only
  rw [if_pos ⟨shp_p, shp_pr⟩]
  congr 1
  rw [Bool.eq_iff_iff, List.any_eq_true, decide_eq_true_iff]
  constructor
  · rintro ⟨d, hd, hq⟩
    obtain ⟨q, hq2, e⟩ := List.mem_map.mp hd
    subst e
    rw [eqv_pr, decide_eq_true_iff] at hq
    subst hq
    exact hq2
  · intro hp
    exact ⟨pd p, List.mem_map.mpr ⟨p, hp, rfl⟩, by rw [eqv_pr]; exact decide_eq_true rfl⟩
/-! sorted pairs -/
theorem sorted_pr {L : List (Nat × Nat)} {h : MH} : ∃ S : List (Nat × Nat), sortPF [.fls (L.map prV)] h = ok (S.map prV) h ∧ (∀ p, p ∈ S ↔ p ∈ L) ∧ S.Pairwise (fun p q => ltP p q ∨ p = q) ∧ S.length = L.length := by
  have pm := srtB_perm (le := leP) (L.map cst)
  have all : ∀ q ∈ srtB leP (L.map cst), ∃ p, p ∈ L ∧ cst p = q := fun q hq => List.mem_map.mp (pm.mem_iff.mp hq)
  have e1 : ((srtB leP (L.map cst)).map fun q => (q.1.toNat, q.2.toNat)).map cst = srtB leP (L.map cst) := by
    rw [List.map_map]
    conv => rhs; rw [← List.map_id' (srtB leP (L.map cst))]
    refine List.map_congr_left fun q hq => ?_
    obtain ⟨p, _, e⟩ := all q hq
    subst e
    rfl
  obtain ⟨S, hS⟩ : ∃ S, ((srtB leP (L.map cst)).map fun q => (q.1.toNat, q.2.toNat)) = S := ⟨_, rfl⟩
  rw [hS] at e1
  refine ⟨S, ?_, fun p => ?_, ?_, ?_⟩
  · unfold sortPF
    show (match (some (L.map prV)).bind pairsOf with | some ps => ok ((srtB leP ps).map mvP) h | none => none) = _
    rw [Option.bind_some, prs_pairs]
    show ok ((srtB leP (L.map cst)).map mvP) h = _
    rw [← e1, List.map_map]
    rfl
  · constructor
    · intro hp
      have : cst p ∈ srtB leP (L.map cst) := by
        rw [← e1]
        exact List.mem_map.mpr ⟨p, hp, rfl⟩
      obtain ⟨q, hq, e⟩ := all _ this
      rw [← cst_inj e]
      exact hq
    · intro hp
      have : cst p ∈ S.map cst := by
        rw [e1]
        exact pm.mem_iff.mpr (List.mem_map.mpr ⟨p, hp, rfl⟩)
      obtain ⟨q, hq, e⟩ := List.mem_map.mp this
      rw [← cst_inj e]
      exact hq
  · have := srtB_srt leP_tot leP_tr (L.map cst)
    rw [← e1, List.pairwise_map] at this
    refine this.imp fun {a b} hab => ?_
    have := leP_iff.mp hab
    unfold cst at this
    unfold ltP
    simp only at this
    by_cases c : a.1 = b.1 ∧ a.2 = b.2
    · exact .inr (Prod.ext c.1 c.2)
    · exact .inl (by omega)
  · have := pm.length_eq
    rw [← e1, List.length_map, List.length_map] at this
    exact this
noncomputable def du : MT := (ifS (andT (tstM (opM ninDF (tupM (consA (varM 4) (consA (varM 5) nilA))) (varM 3))) (notT (truM (bltM anyF (consA (flsM (lcM (rng1 (consA (varM 0) nilA)) [6] (one 6) yesT (andV (opM ixF (opM ixF (varM 2) (varM 6)) (varM 4)) (opM ixF (opM ixF (varM 2) (varM 5)) (varM 6))))) nilA))))) (dropS (mthM appF (varM 3) (consA (tupM (consA (varM 4) (consA (varM 5) nilA))) nilA))) nilS)
def stD (n : Nat) (l1 : MV) (f : Nat → Nat → Bool) (F : Nat) (x4 x5 : Option MV) : MS := [some (.int (n : Int)), some l1, some (matV n n f), some (.ref F), x4, x5, none]
theorem any_bl {h : MH} {n : Nat} {c : Nat → Bool} : anyF [.fls (tb n fun i => .bl (c i))] h = ok (.bl ((List.range n).any c)) h := by
  have e : ∀ l : List Nat, blsOf (l.map fun i => MV.bl (c i)) = some (l.map c) := by
    intro l
    induction l with
    | nil => rfl
    | cons a l ih =>
      rw [List.map_cons, List.map_cons]
      unfold blsOf
      rw [ih]
      rfl
  unfold anyF tb
  show (match (some ((List.range n).map fun i => MV.bl (c i))).bind blsOf with | some ns => ok (MV.bl (ns.any id)) h | none => none) = _
  rw [Option.bind_some, e]
  show ok (MV.bl (((List.range n).map c).any id)) h = _
  rw [List.any_map]
  rfl
theorem du_ {n F : Nat} {l1 : MV} {f : Nat → Nat → Bool} {p : Nat × Nat} {D : List (Nat × Nat)} {x4 x5 : Option MV} {h : MH} (hn : n ≤ 64) (h1 : p.1 < n) (h2 : p.2 < n) (hl : h[F]? = some (.lst (D.map prV))) (hD : D.length < lim) :
    ∃ D', turnM (unp [4, 5]) du (prV p) (stD n l1 f F x4 x5) h = some (.nx (stD n l1 f F (some (.int (p.1 : Int))) (some (.int (p.2 : Int)))) (h.set F (.lst (D'.map prV)))) ∧
      ((p ∉ D ∧ ((List.range n).any fun z => f z p.1 && f p.2 z) = false ∧ D' = D ++ [p]) ∨ ((p ∈ D ∨ ((List.range n).any fun z => f z p.1 && f p.2 z) = true) ∧ D' = D)) := by
  have q : (n : Int) ≤ 1000000 := by omega
  have q' : (-1000000 : Int) ≤ n := by omega
  have l2 : 2 ≤ lim := by unfold lim; omega
  have same : h.set F (.lst (D.map prV)) = h := by
    obtain ⟨hlt, e⟩ := List.getElem?_eq_some_iff.mp hl
    rw [← e, List.set_getElem_self]
  have e1 : inDB h (prV p) (.ref F) = some (decide (p ∈ D)) := in_pr (by show (match h[F]? with | some (.lst xs) => some xs | _ => none) = _; rw [hl])
  have e1' : inDB h (.tup [.int (p.1 : Int), .int (p.2 : Int)]) (.ref F) = some (decide (p ∈ D)) := e1
  have e2 := lc_tb (g := one 6) (el := andV (opM ixF (opM ixF (varM 2) (varM 6)) (varM 4)) (opM ixF (opM ixF (varM 2) (varM 5)) (varM 6))) (s0 := stD n l1 f F (some (.int (p.1 : Int))) (some (.int (p.2 : Int)))) (h := h) (n := n) (fun z => .bl (f z p.1 && f p.2 z)) (by unfold lim; omega) fun z hz => ⟨_, rfl, by
    have b1 := atI_nat (tb_get (F := fun x => MV.fls (tb n fun y => .bl (f x y))) hz)
    have b2 := atI_nat (tb_get (F := fun y => MV.bl (f z y)) h1)
    have b3 := atI_nat (tb_get (F := fun x => MV.fls (tb n fun y => .bl (f x y))) h2)
    have b4 := atI_nat (tb_get (F := fun y => MV.bl (f p.2 y)) hz)
    cases c : f z p.1 with
    | true =>
      rw [c] at b2
      simp [stD, matV, b1, b2, b3, b4]
    | false =>
      rw [c] at b2
      simp [stD, matV, b1, b2]⟩
  have e3 := any_bl (h := h) (n := n) (c := fun z => f z p.1 && f p.2 z)
  obtain ⟨b, hb⟩ : ∃ b, ((List.range n).any fun z => f z p.1 && f p.2 z) = b := ⟨_, rfl⟩
  rw [hb] at e3 ⊢
  unfold stD at e2 ⊢
  by_cases c : p ∈ D
  · refine ⟨D, ?_, .inr ⟨.inl c, rfl⟩⟩
    rw [same]
    simp [turnM, prV, du, l2, e1', c]
  · cases b with
    | true =>
      refine ⟨D, ?_, .inr ⟨.inr rfl, rfl⟩⟩
      rw [same]
      simp [turnM, prV, du, l2, e1', c, q, q', wipeM, e2, e3]
    | false =>
      refine ⟨D ++ [p], ?_, .inl ⟨c, rfl, rfl⟩⟩
      have ed : (D ++ [p]).map prV = D.map prV ++ [.tup [.int (p.1 : Int), .int (p.2 : Int)]] := by rw [List.map_append]; rfl
      rw [ed]
      simp [turnM, prV, du, l2, e1', c, q, q', wipeM, e2, e3, hl, hD]
theorem due {n : Nat} {L : List (Nat × Nat)} {f : Nat → Nat → Bool} {h : MH} (hn : n ≤ 64) (hL : ∀ p ∈ L, p.1 < n ∧ p.2 < n) (hlen : L.length ≤ 100000) : ∃ (D : List (Nat × Nat)) (h' : MH), f_law_due [.int (n : Int), .fls (L.map prV), matV n n f] h = ok (.tup (D.map prV)) h' ∧ D.Pairwise ltP ∧ (∀ p, p ∈ D ↔ p ∈ L ∧ ((List.range n).any fun z => f z p.1 && f p.2 z) = false) ∧ Keep (fun _ => False) h h' := by
  obtain ⟨S, es, mS, sS, lS⟩ := sorted_pr (L := L) (h := h ++ [.lst []])
  obtain ⟨s', h1, e, ⟨x4, x5, hs⟩, D, top, ss, mem, len, k⟩ := forS_ok (bd := turnM (unp [4, 5]) du) (fun i s g => (∃ x4 x5, s = stD n (.fls (L.map prV)) f h.length x4 x5) ∧ ∃ D : List (Nat × Nat), g[h.length]? = some (.lst (D.map prV)) ∧ D.Pairwise ltP ∧ (∀ p, p ∈ D ↔ p ∈ S.take i ∧ ((List.range n).any fun z => f z p.1 && f p.2 z) = false) ∧ D.length ≤ i ∧ Keep (fun _ => False) h g) (xs := S.map prV) (i0 := 0) (s := stD n (.fls (L.map prV)) f h.length none none) (h := h ++ [.lst []])
    (fun i x s g hx ⟨⟨x4, x5, hs⟩, D, top, ss, mem, len, k⟩ => by
      subst hs
      rw [Nat.zero_add] at mem len ⊢
      rw [List.getElem?_map] at hx
      obtain ⟨p, ep, ex⟩ := Option.map_eq_some_iff.mp hx
      subst ex
      have hi := (List.getElem?_eq_some_iff.mp ep).1
      obtain ⟨hp1, hp2⟩ := hL p ((mS p).mp (List.mem_of_getElem? ep))
      obtain ⟨D', e, dd⟩ := du_ (l1 := .fls (L.map prV)) (f := f) (x4 := x4) (x5 := x5) hn hp1 hp2 top (by unfold lim; omega)
      refine ⟨_, _, .inl e, ⟨_, _, rfl⟩, D', get_set top, ?_, fun r => ?_, ?_, k.set fun z => absurd z (Nat.lt_irrefl _)⟩
      · rcases dd with ⟨c, _, e⟩ | ⟨_, e⟩
        · rw [e]
          refine List.pairwise_append.mpr ⟨ss, List.pairwise_singleton .., fun a ha b hb => ?_⟩
          rw [List.mem_singleton.mp hb]
          have ha2 := (mem a).mp ha
          obtain ⟨j, hj⟩ := List.getElem?_of_mem ha2.1
          have hji : j < i := by
            have := (List.getElem?_eq_some_iff.mp hj).1
            rw [List.length_take] at this
            omega
          rw [List.getElem?_take_of_lt hji] at hj
          have := List.pairwise_iff_getElem.mp sS j i (by omega) hi hji
          rw [(List.getElem?_eq_some_iff.mp hj).2, (List.getElem?_eq_some_iff.mp ep).2] at this
          rcases this with z | z
          · exact z
          · rw [z] at ha
            exact absurd ha c
        · rw [e]
          exact ss
      · rw [List.take_add_one, ep, Option.toList_some, List.mem_append, List.mem_singleton]
        rcases dd with ⟨c, d, e⟩ | ⟨c, e⟩
        · rw [e, List.mem_append, List.mem_singleton, mem]
          constructor
          · rintro (⟨a, b⟩ | a)
            · exact ⟨.inl a, b⟩
            · rw [a]
              exact ⟨.inr rfl, d⟩
          · rintro ⟨a | a, b⟩
            · exact .inl ⟨a, b⟩
            · exact .inr a
        · rw [e, mem]
          constructor
          · rintro ⟨a, b⟩
            exact ⟨.inl a, b⟩
          · rintro ⟨a | a, b⟩
            · exact ⟨a, b⟩
            · rw [a] at b ⊢
              rcases c with c | c
              · exact (mem p).mp c
              · rw [c] at b
                cases b
      · rcases dd with ⟨_, _, e⟩ | ⟨_, e⟩ <;> rw [e]
        · rw [List.length_append]
          show D.length + 1 ≤ _
          omega
        · omega)
    ⟨⟨_, _, rfl⟩, [], get_app, List.Pairwise.nil, fun p => by simp, Nat.le_refl _, keeps _⟩
  subst hs
  rw [Nat.zero_add, List.length_map, List.take_length] at mem
  refine ⟨D, h1, ?_, ss, fun p => by rw [mem, mS], k⟩
  have l0 : 0 ≤ lim := Nat.zero_le _
  have hm : f_law_due = defM 3 7 (seqS (setS 3 (refM (lstM nilA))) (seqS (forM (seqI (flsM (bltL sortPF (consA (varM 1) nilA)))) (unp [4, 5]) du) (retS (bltM tupF (consA (varM 3) nilA))))) := rfl
  rw [hm]
  unfold stD at e
  simp [l0, es, e, top]
/-! in a drawn order -/
theorem mingled {h : MH} {l : Nat} {Q : List (Nat × Nat)} (b : Box h l) (hQ : Q.length ≤ 10000) : ∃ (S : List (Nat × Nat)) (h' : MH), f_law_mingled [.ref l, .fls (Q.map prV)] h = ok (.fls (S.map prV)) h' ∧ (∀ p, p ∈ S ↔ p ∈ Q) ∧ Box h' l := by
  have hlt := b.lt
  obtain ⟨s', h1, e, ⟨x3, hs⟩, S, top, mem, len, b1⟩ := forS_ok (bd := turnM (one 3) (dropS (mthM insF (varM 2) (consA (callM f_law_draw [] (consA (varM 0) (consA (opM addF (bltM lenF (consA (varM 2) nilA)) (cM (.int 1))) nilA))) (consA (varM 3) nilA))))) (fun i s g => (∃ x3, s = [some (.ref l), some (.fls (Q.map prV)), some (.ref h.length), x3]) ∧ ∃ S : List (Nat × Nat), g[h.length]? = some (.lst (S.map prV)) ∧ (∀ p, p ∈ S ↔ p ∈ Q.take i) ∧ S.length = i ∧ Box g l) (xs := Q.map prV) (i0 := 0) (s := [some (.ref l), some (.fls (Q.map prV)), some (.ref h.length), none]) (h := h ++ [.lst []])
    (fun i x s g hx ⟨⟨x3, hs⟩, S, top, mem, len, b⟩ => by
      subst hs
      rw [Nat.zero_add] at mem len ⊢
      rw [List.getElem?_map] at hx
      obtain ⟨p, ep, ex⟩ := Option.map_eq_some_iff.mp hx
      subst ex
      have hi := (List.getElem?_eq_some_iff.mp ep).1
      obtain ⟨d, g1, e1, hd, b1, k1⟩ := draw (m := S.length + 1) b (by omega) (by omega)
      have top1 : g1[h.length]? = some (.lst (S.map prV)) := k1.get top (by omega)
      have e1' : f_law_draw [.ref l, .int ((S.length : Int) + 1)] g = ok (.int (d : Int)) g1 := by
        rw [Int.natCast_add] at e1
        exact e1
      have hl : S.length < lim ∧ (0 : Int) ≤ (d : Int) ∧ (d : Int) ≤ 1000000 := by
        unfold lim
        omega
      have es : (S.take d ++ [p] ++ S.drop d).map prV = (S.map prV).take d ++ [prV p] ++ (S.map prV).drop d := by
        rw [List.map_append, List.map_append, List.map_take, List.map_drop]
        rfl
      refine ⟨[some (.ref l), some (.fls (Q.map prV)), some (.ref h.length), some (prV p)], g1.set h.length (.lst ((S.take d ++ [p] ++ S.drop d).map prV)), .inl ?_, ⟨_, rfl⟩, _, get_set top1, fun r => ?_, ?_, ?_⟩
      · rw [es]
        have hl1 := hl.1
        have hl3 := hl.2.2
        simp [top, e1', top1, hl1, hl3]
      · rw [List.take_add_one, ep, Option.toList_some, List.mem_append, List.mem_append, List.mem_append, ← mem]
        conv => rhs; rw [← List.take_append_drop d S]
        rw [List.mem_append]
        constructor
        · rintro ((a | a) | a)
          · exact .inl (.inl a)
          · exact .inr a
          · exact .inl (.inr a)
        · rintro ((a | a) | a)
          · exact .inl (.inl a)
          · exact .inr a
          · exact .inl (.inr a)
      · rw [List.length_append, List.length_append, List.length_take, List.length_drop]
        show min d S.length + 1 + _ = _
        omega
      · obtain ⟨bx, hb, hp⟩ := b1
        exact ⟨bx, get_set_ne hb (by omega), hp⟩)
    ⟨⟨_, rfl⟩, [], get_app, fun p => by simp, rfl, b.app _⟩
  subst hs
  rw [Nat.zero_add, List.length_map, List.take_length] at mem
  have fl : (S.map prV).all flatT = true := by
    rw [List.all_eq_true]
    intro z hz
    obtain ⟨p, _, e⟩ := List.mem_map.mp hz
    subst e
    rfl
  have e2 := frz_lst 2 top fl
  refine ⟨S, h1.set h.length .dead, ?_, mem, ?_⟩
  · have e2' : frzV 4 (.ref h.length) h1 = some (.fls (S.map prV), h1.set h.length .dead) := e2
    have l0 : 0 ≤ lim := Nat.zero_le _
    simp only [f_law_mingled, m_law_mingled]
    simp [l0, e, e2']
  · obtain ⟨bx, hb, hp⟩ := b1
    exact ⟨bx, get_set_ne hb (by omega), hp⟩
end Mi.k03
set_option maxHeartbeats 4000000
namespace Mi.k03
open PySem L2
/-- a loop that may be left by break -/
theorem forS_okB {bd : MV → MT} (I : Nat → MS → MH → Prop) (J : MS → MH → Prop) : ∀ {xs : List MV} {i0 : Nat} {s : MS} {h : MH}, (∀ i x s h, xs[i]? = some x → I (i0 + i) s h → ∃ s' h', (bd x s h = some (.nx s' h') ∧ I (i0 + i + 1) s' h') ∨ (bd x s h = some (.brk s' h') ∧ J s' h')) → I i0 s h →
    ∃ s' h', forS bd xs s h = some (.nx s' h') ∧ (I (i0 + xs.length) s' h' ∨ J s' h')
  | [], i0, s, h, _, h0 => ⟨s, h, rfl, .inl h0⟩
  | x :: xs, i0, s, h, hs, h0 => by
    obtain ⟨s1, h1, q⟩ := hs 0 x s h rfl h0
    rcases q with ⟨e, q⟩ | ⟨e, q⟩
    · obtain ⟨s2, h2, e2, q2⟩ := forS_okB I J (xs := xs) (i0 := i0 + 1) (s := s1) (h := h1) (fun i y s h hy hi => by
        obtain ⟨s', h', q'⟩ := hs (i + 1) y s h (by simpa using hy) (by rw [show i0 + (i + 1) = i0 + 1 + i by omega]; exact hi)
        exact ⟨s', h', by rw [show i0 + 1 + i + 1 = i0 + (i + 1) + 1 by omega]; exact q'⟩) q
      refine ⟨s2, h2, ?_, by rw [List.length_cons, show i0 + (xs.length + 1) = i0 + 1 + xs.length by omega]; exact q2⟩
      unfold forS
      rw [e]
      exact e2
    · refine ⟨s1, h1, ?_, .inr q⟩
      unfold forS
      rw [e]
def iV (g : List Nat) : List MV := g.map fun (x : Nat) => .int (x : Int)
theorem in_iV {x : Nat} {g : List Nat} : inM (.int (x : Int)) (iV g) = decide (x ∈ g) := by
  unfold inM iV
  rw [List.any_map, Bool.eq_iff_iff, List.any_eq_true, decide_eq_true_iff]
  constructor
  · rintro ⟨y, hy, e⟩
    have e' : ((y : Int) == (x : Int)) = true := e
    rw [beq_iff_eq] at e'
    rw [show x = y by omega]
    exact hy
  · intro h
    exact ⟨x, h, beq_iff_eq.mpr rfl⟩
theorem flat_iV {g : List Nat} : (iV g).all flatM = true := by
  rw [List.all_eq_true]
  intro z hz
  obtain ⟨x, _, e⟩ := List.mem_map.mp hz
  subst e
  rfl
def bV (n : Nat) (met : Nat → Bool) : List MV := tb n fun y => .bl (met y)
def seen (met : Nat → Bool) (ml : List Nat) (y : Nat) : Bool := met y || decide (y ∈ ml)
noncomputable def ri : MT := (ifS (andT (tstM (opM inF (varM 4) (varM 5))) (notT (truM (opM ixF (varM 3) (varM 8))))) (seqS (subS (cM (.bl true)) (varM 3) (varM 8)) (dropS (mthM appF (varM 7) (consA (varM 8) nilA)))) nilS)
noncomputable def ro : MT := (seqS (ifS (tstM (opM eqF (bltM lenF (consA (varM 5) nilA)) (cM (.int 0)))) brkS nilS)
    (seqS (setS 7 (refM (lstM nilA)))
    (seqS (forM (seqI (varM 1)) (unp [4, 8]) ri)
    (setS 5 (varM 7)))))
def stR (n : Nat) (LV : MV) (st : Nat) (B : Nat) (x4 x5 x6 x7 x8 : Option MV) : MS := [some (.int (n : Int)), some LV, some (.int (st : Int)), some (.ref B), x4, x5, x6, x7, x8]
/-- the inner loop's turn -/
theorem ri_ {n st B Mo : Nat} {LV W : MV} {met : Nat → Bool} {wl ml : List Nat} {p : Nat × Nat} {x4 x6 x8 : Option MV} {h : MH} (h2 : p.2 < n) (hB : h[B]? = some (.lst (bV n (seen met ml)))) (hM : h[Mo]? = some (.lst (iV ml))) (hW : seqOf h W = some (iV wl)) (hne : B ≠ Mo) (hl : ml.length < lim) :
    ∃ ml' h', turnM (unp [4, 8]) ri (prV p) (stR n LV st B x4 (some W) x6 (some (.ref Mo)) x8) h = some (.nx (stR n LV st B (some (.int (p.1 : Int))) (some W) x6 (some (.ref Mo)) (some (.int (p.2 : Int)))) h') ∧ h'[B]? = some (.lst (bV n (seen met ml'))) ∧ h'[Mo]? = some (.lst (iV ml')) ∧ Keep (fun j => j = B ∨ j = Mo) h h' ∧
      ((p.1 ∈ wl ∧ seen met ml p.2 = false ∧ ml' = ml ++ [p.2]) ∨ ((p.1 ∉ wl ∨ seen met ml p.2 = true) ∧ ml' = ml)) := by
  have e1 : inF (.int (p.1 : Int)) W h = ok (.bl (decide (p.1 ∈ wl))) h := by
    unfold inF
    rw [hW]
    dsimp only
    rw [if_pos ⟨rfl, flat_iV⟩, in_iV]
  have b2 : atI (bV n (seen met ml)) (p.2 : Int) = some (.bl (seen met ml p.2)) := atI_nat (tb_get (F := fun y => MV.bl (seen met ml y)) h2)
  have t1 : ∀ s, slot s 4 = some (.int (p.1 : Int)) → slot s 5 = some W → (tstM (opM inF (varM 4) (varM 5))) s h = ok (decide (p.1 ∈ wl)) h := fun s a b => by
    show ((opM inF (varM 4) (varM 5)) s h).bnd boolF = _
    have : (opM inF (varM 4) (varM 5)) s h = inF (.int (p.1 : Int)) W h := by
      show ((may (slot s 4) h).bnd fun x h1 => (may (slot s 5) h1).bnd fun y h2 => inF x y h2) = _
      rw [a, b]
      rfl
    rw [this, e1]
    rfl
  by_cases c : p.1 ∈ wl
  · cases d : seen met ml p.2 with
    | true =>
      rw [d] at b2
      refine ⟨ml, h, ?_, hB, hM, Keep.refl _, .inr ⟨.inr rfl, rfl⟩⟩
      have t2 : (andT (tstM (opM inF (varM 4) (varM 5))) (notT (truM (opM ixF (varM 3) (varM 8))))) (stR n LV st B (some (.int (p.1 : Int))) (some W) x6 (some (.ref Mo)) (some (.int (p.2 : Int)))) h = ok false h := by
        show ((tstM (opM inF (varM 4) (varM 5))) _ h).bnd _ = _
        rw [t1 _ rfl rfl, bnd_ok, if_pos (decide_eq_true c)]
        simp [stR, hB, b2]
      show ri (stR n LV st B (some (.int (p.1 : Int))) (some W) x6 (some (.ref Mo)) (some (.int (p.2 : Int)))) h = _
      show bndS _ _ = _
      rw [t2]
      rfl
    | false =>
      rw [d] at b2
      have ii : ixN n (p.2 : Int) = some p.2 := ixN_nat h2
      have ll : (bV n (seen met ml)).length = n := tb_len
      have eB : (bV n (seen met ml)).set p.2 (.bl true) = bV n (seen met (ml ++ [p.2])) := by
        unfold bV
        rw [tb_set]
        refine tb_congr fun y _ => ?_
        unfold seen
        by_cases q : y = p.2
        · simp [q]
        · simp [q]
      have hM1 : (h.set B (.lst (bV n (seen met (ml ++ [p.2])))))[Mo]? = some (.lst (iV ml)) := get_set_ne hM (Ne.symm hne)
      have eM : iV (ml ++ [p.2]) = iV ml ++ [.int (p.2 : Int)] := by unfold iV; rw [List.map_append]; rfl
      have lm : (iV ml).length < lim := by unfold iV; rw [List.length_map]; exact hl
      refine ⟨ml ++ [p.2], (h.set B (.lst (bV n (seen met (ml ++ [p.2]))))).set Mo (.lst (iV (ml ++ [p.2]))), ?_, get_set_ne (get_set hB) hne, get_set hM1, (((Keep.refl h).set fun _ => .inl rfl).set fun _ => .inr rfl), .inl ⟨c, rfl, rfl⟩⟩
      have t2 : (andT (tstM (opM inF (varM 4) (varM 5))) (notT (truM (opM ixF (varM 3) (varM 8))))) (stR n LV st B (some (.int (p.1 : Int))) (some W) x6 (some (.ref Mo)) (some (.int (p.2 : Int)))) h = ok true h := by
        show ((tstM (opM inF (varM 4) (varM 5))) _ h).bnd _ = _
        rw [t1 _ rfl rfl, bnd_ok, if_pos (decide_eq_true c)]
        simp [stR, hB, b2]
      show ri (stR n LV st B (some (.int (p.1 : Int))) (some W) x6 (some (.ref Mo)) (some (.int (p.2 : Int)))) h = _
      show bndS _ _ = _
      rw [t2, eM]
      simp [stR, bndS, hB, ll, ii, eB, hM1, lm]
  · refine ⟨ml, h, ?_, hB, hM, Keep.refl _, .inr ⟨.inl c, rfl⟩⟩
    have t2 : (andT (tstM (opM inF (varM 4) (varM 5))) (notT (truM (opM ixF (varM 3) (varM 8))))) (stR n LV st B (some (.int (p.1 : Int))) (some W) x6 (some (.ref Mo)) (some (.int (p.2 : Int)))) h = ok false h := by
      show ((tstM (opM inF (varM 4) (varM 5))) _ h).bnd _ = _
      rw [t1 _ rfl rfl, bnd_ok, if_neg (by simp [c])]
    show ri (stR n LV st B (some (.int (p.1 : Int))) (some W) x6 (some (.ref Mo)) (some (.int (p.2 : Int)))) h = _
    show bndS _ _ = _
    rw [t2]
    rfl
def cntB (n : Nat) (met : Nat → Bool) : Nat := ((List.range n).filter met).length
theorem cntB_le {n : Nat} {met : Nat → Bool} : cntB n met ≤ n := by
  have := List.length_filter_le met (List.range n)
  rw [List.length_range] at this
  exact this
theorem cntB_lt {n j : Nat} {p q : Nat → Bool} (h : ∀ i, p i = true → q i = true) (hj : j < n) (hq : q j = true) (hp : p j = false) : cntB n p < cntB n q := by
  unfold cntB
  have e : (List.range n).filter p = ((List.range n).filter q).filter p := by
    rw [List.filter_filter]
    exact List.filter_congr fun i _ => by
      cases c : p i with
      | false => rfl
      | true => rw [h i c]; rfl
  rw [e]
  rcases Nat.lt_or_eq_of_le (List.length_filter_le p ((List.range n).filter q)) with z | z
  · exact z
  · have := List.length_filter_eq_length_iff.mp z j (List.mem_filter.mpr ⟨List.mem_range.mpr hj, hq⟩)
    rw [hp] at this
    cases this
/-- what is known ahead of turn t -/
structure Br (n : Nat) (L : List (Nat × Nat)) (st t : Nat) (met : Nat → Bool) (wl : List Nat) : Prop where
  snd : ∀ y, met y = true → Rch L st y
  wai : ∀ w ∈ wl, w = st ∨ met w = true
  cls : ∀ p ∈ L, (p.1 = st ∨ met p.1 = true) → p.1 ∉ wl → met p.2 = true
  many : wl ≠ [] → t ≤ cntB n met
def Wt (g : MH) (B : Nat) (W : MV) (wl : List Nat) : Prop := W = .fls (iV wl) ∨ ∃ w, W = .ref w ∧ g[w]? = some (.lst (iV wl)) ∧ w ≠ B
theorem Wt.seq {g : MH} {B : Nat} {W : MV} {wl : List Nat} (w : Wt g B W wl) : seqOf g W = some (iV wl) := by
  rcases w with e | ⟨w, e, a, _⟩
  · rw [e]
    rfl
  · rw [e]
    show (match g[w]? with | some (.lst xs) => some xs | _ => none) = _
    rw [a]
theorem Wt.len {g : MH} {B : Nat} {W : MV} {wl : List Nat} (w : Wt g B W wl) : lenF [W] g = ok (.int (wl.length : Int)) g := by
  have l2 : (iV wl).length = wl.length := by unfold iV; rw [List.length_map]
  rcases w with e | ⟨w, e, a, _⟩
  · rw [e]
    simp [l2]
  · rw [e]
    simp [a, l2]
theorem Wt.keep {g g' : MH} {B Mo : Nat} {W : MV} {wl : List Nat} (w : Wt g B W wl) (hMo : g.length ≤ Mo) (k : Keep (fun j => j = B ∨ j = Mo) g g') : Wt g' B W wl := by
  rcases w with e | ⟨w, e, a, n⟩
  · exact .inl e
  · have := at_len a
    exact .inr ⟨w, e, k.get a (by omega), n⟩
theorem Br.start {n : Nat} {L : List (Nat × Nat)} {st : Nat} : Br n L st 0 (fun _ => false) [st] where
  snd := fun _ h => by cases h
  wai := fun w hw => .inl (List.mem_singleton.mp hw)
  cls := fun p _ h1 h2 => by
    rcases h1 with h1 | h1
    · rw [h1] at h2
      exact absurd (List.mem_singleton.mpr rfl) h2
    · cases h1
  many := fun _ => Nat.zero_le _
theorem Br.next {n : Nat} {L : List (Nat × Nat)} {st t : Nat} {met : Nat → Bool} {wl ml : List Nat} (b : Br n L st t met wl) (hw : wl ≠ []) (hL : ∀ p ∈ L, p.1 < n ∧ p.2 < n) (h1 : ∀ y ∈ ml, met y = false ∧ ∃ p ∈ L, p.1 ∈ wl ∧ p.2 = y) (h2 : ∀ p ∈ L, p.1 ∈ wl → seen met ml p.2 = true) : Br n L st (t + 1) (seen met ml) ml where
  snd := fun y h => by
    unfold seen at h
    rw [Bool.or_eq_true, decide_eq_true_iff] at h
    rcases h with h | h
    · exact b.snd y h
    · obtain ⟨_, p, hp, hpw, e⟩ := h1 y h
      subst e
      rcases b.wai p.1 hpw with z | z
      · rw [← z]
        exact .one hp
      · exact .step (b.snd _ z) hp
  wai := fun w hw => .inr (by
    unfold seen
    rw [decide_eq_true hw, Bool.or_true])
  cls := fun p hp h hn => by
    by_cases c : p.1 ∈ wl
    · exact h2 p hp c
    · have : p.1 = st ∨ met p.1 = true := by
        rcases h with h | h
        · exact .inl h
        · unfold seen at h
          rw [decide_eq_false hn, Bool.or_false] at h
          exact .inr h
      unfold seen
      rw [b.cls p hp this c]
      rfl
  many := fun hm => by
    have ht := b.many hw
    obtain ⟨j, hj⟩ : ∃ j, j ∈ ml := by
      cases ml with
      | nil => exact absurd rfl hm
      | cons j _ => exact ⟨j, List.mem_cons_self ..⟩
    obtain ⟨a, p, hp, _, e⟩ := h1 j hj
    have : cntB n met < cntB n (seen met ml) := cntB_lt (fun i hi => by unfold seen; rw [hi]; rfl) (by rw [← e]; exact (hL p hp).2) (by unfold seen; rw [decide_eq_true hj, Bool.or_true]) a
    omega
theorem Br.fin {n : Nat} {L : List (Nat × Nat)} {st t : Nat} {met : Nat → Bool} (b : Br n L st t met []) {y : Nat} : met y = true ↔ Rch L st y := by
  refine ⟨b.snd y, fun r => ?_⟩
  induction r with
  | one h => exact b.cls _ h (.inl rfl) List.not_mem_nil
  | step _ h ih => exact b.cls _ h (.inr ih) List.not_mem_nil
theorem rng1_nat {u : Nat} {h : MH} (q : (u : Int) ≤ 1000000) (q' : (-1000000 : Int) ≤ (u : Int)) : rng1F [.int (u : Int)] h = ok (.st (runOf 0 u)) h := by
  simp [q, q']
theorem reached {h : MH} {n st : Nat} {L : List (Nat × Nat)} (hn : n ≤ 64) (hL : ∀ p ∈ L, p.1 < n ∧ p.2 < n) (hlen : L.length ≤ 100000) :
    ∃ (met : Nat → Bool) (h' : MH), f_law_reached [.int (n : Int), .tup (L.map prV), .int (st : Int)] h = ok (.fls (bV n met)) h' ∧ (∀ y, met y = true ↔ Rch L st y) ∧ Keep (fun _ => False) h h' := by
  obtain ⟨u, hu⟩ : ∃ u : Nat, n + 1 = u := ⟨_, rfl⟩
  have hu' : (n : Int) + 1 = (u : Int) := by omega
  have q : (u : Int) ≤ 1000000 := by omega
  have q' : (-1000000 : Int) ≤ (u : Int) := by omega
  have r : (n : Int) ≤ 1000000 := by omega
  have r' : (-1000000 : Int) ≤ n := by omega
  have l1 : 1 ≤ lim := by unfold lim; omega
  have l0 : 0 ≤ lim := Nat.zero_le _
  obtain ⟨LV, hLV⟩ : ∃ LV, MV.tup (L.map prV) = LV := ⟨_, rfl⟩
  have e0 : lcS (one 4) yesT (cM (.bl false)) [some (.int (n : Int)), some LV, some (.int (st : Int)), none, none, none, none, none, none] (runOf 0 n) [] h = ok (bV n fun _ => false) h := lc_tb (fun _ => .bl false) (by unfold lim; omega) fun i hi => ⟨_, rfl, rfl⟩
  obtain ⟨s', h1, e, R⟩ := forS_okB (bd := turnM (one 6) ro) (fun t s g => ∃ x4 W x6 x7 x8 met wl, s = stR n LV st h.length x4 (some W) x6 x7 x8 ∧ g[h.length]? = some (.lst (bV n met)) ∧ Wt g h.length W wl ∧ Br n L st t met wl ∧ Keep (fun _ => False) h g)
    (fun s g => ∃ x4 W x6 x7 x8 met, s = stR n LV st h.length x4 (some W) x6 x7 x8 ∧ g[h.length]? = some (.lst (bV n met)) ∧ (∃ t, Br n L st t met []) ∧ Keep (fun _ => False) h g)
    (xs := runOf 0 u) (i0 := 0) (s := stR n LV st h.length none (some (.fls (iV [st]))) none none none) (h := h ++ [.lst (bV n fun _ => false)])
    (fun t z s g hz ⟨x4, W, x6, x7, x8, met, wl, hs, hB, hW, br, k⟩ => by
      subst hs
      obtain ⟨ht, ez⟩ := runOf_get hz
      subst ez
      rw [Nat.zero_add] at br ⊢
      rw [Int.zero_add]
      have len := hW.len
      have tst : (tstM (opM eqF (bltM lenF (consA (varM 5) nilA)) (cM (.int 0)))) (stR n LV st h.length x4 (some W) (some (.int (t : Int))) x7 x8) g = ok (decide (wl.length = 0)) g := by
        have c : decide ((wl.length : Int) = 0) = decide (wl.length = 0) := decide_eq_decide.mpr (by (omega))
        have e1 : (bltM lenF (consA (varM 5) nilA)) (stR n LV st h.length x4 (some W) (some (.int (t : Int))) x7 x8) g = lenF [W] g := rfl
        show ((opM eqF (bltM lenF (consA (varM 5) nilA)) (cM (.int 0))) _ g).bnd boolF = _
        have e2 : (opM eqF (bltM lenF (consA (varM 5) nilA)) (cM (.int 0))) (stR n LV st h.length x4 (some W) (some (.int (t : Int))) x7 x8) g = ok (.bl (decide (wl.length = 0))) g := by
          show ((bltM lenF (consA (varM 5) nilA)) _ g).bnd _ = _
          rw [e1, len, bnd_ok]
          show eqF (.int (wl.length : Int)) (.int 0) g = _
          simp [eqB, c]
        rw [e2]
        rfl
      show ∃ s' h', (ro (stR n LV st h.length x4 (some W) (some (.int (t : Int))) x7 x8) g = _ ∧ _) ∨ (ro (stR n LV st h.length x4 (some W) (some (.int (t : Int))) x7 x8) g = _ ∧ _)
      by_cases hw : wl = []
      · subst hw
        refine ⟨_, g, .inr ⟨?_, x4, W, some (.int (t : Int)), x7, x8, met, rfl, hB, ⟨t, br⟩, k⟩⟩
        have : (ifS (tstM (opM eqF (bltM lenF (consA (varM 5) nilA)) (cM (.int 0)))) brkS nilS) (stR n LV st h.length x4 (some W) (some (.int (t : Int))) x7 x8) g = some (.brk (stR n LV st h.length x4 (some W) (some (.int (t : Int))) x7 x8) g) := by
          show bndS _ _ = _
          rw [tst]
          rfl
        show (match (ifS (tstM (opM eqF (bltM lenF (consA (varM 5) nilA)) (cM (.int 0)))) brkS nilS) (stR n LV st h.length x4 (some W) (some (.int (t : Int))) x7 x8) g with | some (.nx s1 h1) => _ | r => r) = _
        rw [this]
      · have hl0 : ¬ wl.length = 0 := fun z => hw (List.eq_nil_of_length_eq_zero z)
        have ltB := at_len hB
        have t1 : (ifS (tstM (opM eqF (bltM lenF (consA (varM 5) nilA)) (cM (.int 0)))) brkS nilS) (stR n LV st h.length x4 (some W) (some (.int (t : Int))) x7 x8) g = some (.nx (stR n LV st h.length x4 (some W) (some (.int (t : Int))) x7 x8) g) := by
          show bndS _ _ = _
          rw [tst, decide_eq_false hl0]
          rfl
        have t2 : (setS 7 (refM (lstM nilA))) (stR n LV st h.length x4 (some W) (some (.int (t : Int))) x7 x8) g = some (.nx (stR n LV st h.length x4 (some W) (some (.int (t : Int))) (some (.ref g.length)) x8) (g ++ [.lst []])) := by
          simp [stR, l0]
        obtain ⟨s3, g3, e3, z4, z8, ml, hs3, a1, a2, a3, a4, a5, a6⟩ := forS_ok (bd := turnM (unp [4, 8]) ri) (fun i s g' => ∃ x4 x8 ml, s = stR n LV st h.length x4 (some W) (some (.int (t : Int))) (some (.ref g.length)) x8 ∧ g'[h.length]? = some (.lst (bV n (seen met ml))) ∧ g'[g.length]? = some (.lst (iV ml)) ∧ Keep (fun j => j = h.length ∨ j = g.length) (g ++ [.lst []]) g' ∧ (∀ y ∈ ml, met y = false ∧ ∃ p ∈ L, p.1 ∈ wl ∧ p.2 = y) ∧ ml.length ≤ i ∧ ∀ p ∈ L.take i, p.1 ∈ wl → seen met ml p.2 = true) (xs := L.map prV) (i0 := 0) (s := stR n LV st h.length x4 (some W) (some (.int (t : Int))) (some (.ref g.length)) x8) (h := g ++ [.lst []])
          (fun i x s g' hx ⟨x4, x8, ml, hs, a1, a2, a3, a4, a5, a6⟩ => by
            subst hs
            rw [Nat.zero_add] at a5 a6 ⊢
            rw [List.getElem?_map] at hx
            obtain ⟨p, ep, ex⟩ := Option.map_eq_some_iff.mp hx
            subst ex
            have hi := (List.getElem?_eq_some_iff.mp ep).1
            have hpL := List.mem_of_getElem? ep
            have kk : Keep (fun j => j = h.length ∨ j = g.length) g g' := (keeps [MO.lst []]).trans a3
            have hW' : seqOf g' W = some (iV wl) := (hW.keep (Nat.le_refl _) kk).seq
            obtain ⟨ml', g2, e, b1, b2, b3, b4⟩ := ri_ (LV := LV) (x4 := x4) (x6 := some (.int (t : Int))) (x8 := x8) (st := st) (hL p hpL).2 a1 a2 hW' (by omega) (by unfold lim; omega)
            refine ⟨_, g2, .inl e, _, _, ml', rfl, b1, b2, a3.trans b3, fun y hy => ?_, ?_, fun r hr hrw => ?_⟩
            · rcases b4 with ⟨c1, c2, c3⟩ | ⟨_, c3⟩
              · rw [c3] at hy
                rcases List.mem_append.mp hy with hy | hy
                · exact a4 y hy
                · rw [List.mem_singleton.mp hy]
                  unfold seen at c2
                  rw [Bool.or_eq_false_iff] at c2
                  exact ⟨c2.1, p, hpL, c1, rfl⟩
              · rw [c3] at hy
                exact a4 y hy
            · rcases b4 with ⟨_, _, c3⟩ | ⟨_, c3⟩ <;> rw [c3]
              · rw [List.length_append]
                show ml.length + 1 ≤ _
                omega
              · omega
            · have mono : ∀ y, seen met ml y = true → seen met ml' y = true := fun y hy => by
                rcases b4 with ⟨_, _, c3⟩ | ⟨_, c3⟩ <;> rw [c3]
                · unfold seen at hy ⊢
                  rw [Bool.or_eq_true, decide_eq_true_iff] at hy ⊢
                  exact hy.imp id fun z => List.mem_append_left _ z
                · exact hy
              rw [List.take_add_one, ep, Option.toList_some, List.mem_append, List.mem_singleton] at hr
              rcases hr with hr | hr
              · exact mono _ (a6 r hr hrw)
              · subst hr
                rcases b4 with ⟨_, _, c3⟩ | ⟨c1, c3⟩
                · rw [c3]
                  unfold seen
                  simp
                · rcases c1 with c1 | c1
                  · exact absurd hrw c1
                  · exact mono _ c1)
          ⟨x4, x8, [], rfl, by
            have : (fun y => seen met [] y) = met := by
              funext y
              unfold seen
              simp
            show (g ++ [MO.lst []])[h.length]? = some (.lst (bV n fun y => seen met [] y))
            rw [this]
            exact get_app_left hB, get_app, Keep.refl _, (fun y hy => absurd hy List.not_mem_nil), Nat.le_refl _, fun p hp => by simp at hp⟩
        subst hs3
        rw [Nat.zero_add, List.length_map, List.take_length] at a6
        refine ⟨stR n LV st h.length z4 (some (.ref g.length)) (some (.int (t : Int))) (some (.ref g.length)) z8, g3, .inl ⟨?_, _, _, _, _, _, _, ml, rfl, a1, .inr ⟨g.length, rfl, a2, by omega⟩, br.next hw hL a4 a6, ?_⟩⟩
        · have t3 : (forM (seqI (varM 1)) (unp [4, 8]) ri) (stR n LV st h.length x4 (some W) (some (.int (t : Int))) (some (.ref g.length)) x8) (g ++ [.lst []]) = some (.nx (stR n LV st h.length z4 (some W) (some (.int (t : Int))) (some (.ref g.length)) z8) g3) := by
            rw [← hLV] at e3 ⊢
            unfold stR at e3 ⊢
            simp [e3]
          unfold ro
          rw [seq_nx t1, seq_nx t2, seq_nx t3]
          simp [stR]
        · refine ((k.weak (Q := fun j => j = h.length ∨ j = g.length) fun _ _ z => z.elim).trans ((keeps [MO.lst []]).trans a3)).weak fun j hj z => ?_
          have := k.le
          omega)
    ⟨none, _, none, none, none, fun _ => false, [st], rfl, get_app, .inl rfl, Br.start, keeps _⟩
  obtain ⟨x4, W, x6, x7, x8, met, hs, hB, ⟨t, br⟩, k⟩ : ∃ x4 W x6 x7 x8 met, s' = stR n LV st h.length x4 (some W) x6 x7 x8 ∧ h1[h.length]? = some (.lst (bV n met)) ∧ (∃ t, Br n L st t met []) ∧ Keep (fun _ => False) h h1 := by
    rcases R with ⟨x4, W, x6, x7, x8, met, wl, hs, hB, hW, br, k⟩ | R
    · have : wl = [] := by
        refine Classical.byContradiction fun z => ?_
        have a := br.many z
        rw [Nat.zero_add, runOf_len] at a
        have := cntB_le (n := n) (met := met)
        omega
      subst this
      exact ⟨_, _, _, _, _, _, hs, hB, ⟨_, br⟩, k⟩
    · exact R
  subst hs
  have fl : (bV n met).all flatT = true := by
    rw [List.all_eq_true]
    intro z hz
    obtain ⟨i, _, e⟩ := tb_mem.mp hz
    subst e
    rfl
  have e2 := frz_lst 2 hB fl
  refine ⟨met, h1.set h.length .dead, ?_, fun y => br.fin, k.set fun z => absurd z (Nat.lt_irrefl _)⟩
  have hm : f_law_reached = defM 3 9 (seqS (setS 3 (refM (lcM (rng1 (consA (varM 0) nilA)) [4] (one 4) yesT (cM (.bl false)))))
    (seqS (setS 5 (flsM (lstM (consA (varM 2) nilA))))
    (seqS (forM (rng1 (consA (opM addF (varM 0) (cM (.int 1))) nilA)) (one 6) ro) (retS (frzM (varM 3)))))) := rfl
  rw [hm]
  have e2' : frzV 4 (.ref h.length) h1 = some (.fls (bV n met), h1.set h.length .dead) := e2
  rw [hLV]
  have t1 : (setS 3 (refM (lcM (rng1 (consA (varM 0) nilA)) [4] (one 4) yesT (cM (.bl false))))) [some (.int (n : Int)), some LV, some (.int (st : Int)), none, none, none, none, none, none] h = some (.nx [some (.int (n : Int)), some LV, some (.int (st : Int)), some (.ref h.length), none, none, none, none, none] (h ++ [.lst (bV n fun _ => false)])) := by
    simp [r, r', wipeM, e0]
  have t2 : (setS 5 (flsM (lstM (consA (varM 2) nilA)))) [some (.int (n : Int)), some LV, some (.int (st : Int)), some (.ref h.length), none, none, none, none, none] (h ++ [.lst (bV n fun _ => false)]) = some (.nx (stR n LV st h.length none (some (.fls (iV [st]))) none none none) (h ++ [.lst (bV n fun _ => false)])) := by
    simp [l1, stR, iV]
  have t3 : (forM (rng1 (consA (opM addF (varM 0) (cM (.int 1))) nilA)) (one 6) ro) (stR n LV st h.length none (some (.fls (iV [st]))) none none none) (h ++ [.lst (bV n fun _ => false)]) = some (.nx (stR n LV st h.length x4 (some W) x6 x7 x8) h1) := by
    have er : (rng1 (consA (opM addF (varM 0) (cM (.int 1))) nilA)) (stR n LV st h.length none (some (.fls (iV [st]))) none none none) (h ++ [.lst (bV n fun _ => false)]) = ok (.st (runOf 0 u)) (h ++ [.lst (bV n fun _ => false)]) := by
      have ec : (consA (opM addF (varM 0) (cM (.int 1))) nilA) (stR n LV st h.length none (some (.fls (iV [st]))) none none none) (h ++ [.lst (bV n fun _ => false)]) = ok [.int (u : Int)] (h ++ [.lst (bV n fun _ => false)]) := by
        simp [stR, hu']
      unfold rng1
      rw [ec, bnd_ok]
      exact rng1_nat q q'
    show bndS _ _ = _
    rw [er]
    exact e
  have t4 : (retS (frzM (varM 3))) (stR n LV st h.length x4 (some W) x6 x7 x8) h1 = some (.ret (.fls (bV n met)) (h1.set h.length .dead)) := by
    simp [stR, e2']
  refine defM_ret (s := [some (.int (n : Int)), some LV, some (.int (st : Int)), none, none, none, none, none, none]) rfl rfl ?_
  rw [seq_nx t1, seq_nx t2, seq_nx t3, t4]
theorem walked {h : MH} {n : Nat} {L : List (Nat × Nat)} {R : Nat → Nat → Bool} (hn : n ≤ 64) (hL : ∀ p ∈ L, p.1 < n ∧ p.2 < n) (hlen : L.length ≤ 100000) (hR : ∀ x y, R x y = true ↔ Rch L x y) : ∃ h', f_law_walked [.int (n : Int), .tup (L.map prV)] h = ok (ord n R) h' ∧ Keep (fun _ => False) h h' := by
  have q : (n : Int) ≤ 1000000 := by omega
  have q' : (-1000000 : Int) ≤ n := by omega
  have l2 : 2 ≤ lim := by unfold lim; omega
  have l0 : 0 ≤ lim := Nat.zero_le _
  obtain ⟨LV, hLV⟩ : ∃ LV, MV.tup (L.map prV) = LV := ⟨_, rfl⟩
  obtain ⟨s', h1, e, x3, x4, hs, k⟩ := for_run (g := one 3) (m := (seqS (setS 4 (callM f_law_reached [] (consA (varM 0) (consA (varM 1) (consA (varM 3) nilA))))) (setS 2 (flsM (catL (varM 2) (flsM (lcM (rng1 (consA (varM 0) nilA)) [5] (one 5) (truM (opM ixF (varM 4) (varM 5))) (tupM (consA (varM 3) (consA (varM 5) nilA)))))))))) (a := 0) (n := n) (s := [some (.int (n : Int)), some LV, some (.fls []), none, none, none]) (h := h)
    (fun i s g => ∃ x3 x4, s = [some (.int (n : Int)), some LV, some (.fls ((PSk i n R).map prV)), x3, x4, none] ∧ Keep (fun _ => False) h g) ⟨none, none, rfl, Keep.refl _⟩ (fun i s g hi ⟨x3, x4, hs, k⟩ => by
      subst hs
      obtain ⟨met, g1, e1, m1, k1⟩ := reached (h := g) (st := i) hn hL hlen
      rw [hLV] at e1
      have eR : ∀ y, met y = R i y := fun y => by rw [Bool.eq_iff_iff, m1, hR]
      have e2 := lc_run (g := one 5) (cd := truM (opM ixF (varM 4) (varM 5))) (el := tupM (consA (varM 3) (consA (varM 5) nilA))) (s0 := [some (.int (n : Int)), some LV, some (.fls ((PSk i n R).map prV)), some (.int (i : Int)), some (.fls (bV n met)), none]) (h := g1) (n := n) (R i) (fun j => prV (i, j)) (by unfold lim; omega) fun j hj => by
        refine ⟨_, rfl, ?_, fun _ => ?_⟩
        · have b1 : atI (bV n met) (j : Int) = some (.bl (met j)) := atI_nat (tb_get (F := fun y => MV.bl (met y)) hj)
          simp [b1, eR]
        · simp [prV, l2]
      have l1 : ((List.range n).filter (R i)).length ≤ n := Nat.le_trans (List.length_filter_le _ _) (by simp)
      have l2' := PSk_len (n := n) (R := R) (k := i)
      have l3 : i * n ≤ 64 * 64 := Nat.mul_le_mul (by omega) hn
      have l4 : (PSk i n R).length + ((List.range n).filter (R i)).length ≤ lim := by unfold lim; omega
      have e6 : (PSk (i + 1) n R).map prV = (PSk i n R).map prV ++ ((List.range n).filter (R i)).map fun j => prV (i, j) := by
        rw [PSk_succ, List.map_append, List.map_map]
        rfl
      refine ⟨[some (.int (n : Int)), some LV, some (.fls ((PSk (i + 1) n R).map prV)), some (.int (i : Int)), some (.fls (bV n met)), none], g1, .inl ?_, _, _, rfl, k.trans k1⟩
      rw [Int.zero_add, e6]
      simp [e1, q, q', wipeM, e2, l4])
  subst hs
  have e7 : (PSk n n R).map prV = (PS n R).map prV := rfl
  rw [e7] at e
  refine ⟨h1, ?_, k⟩
  rw [hLV]
  unfold ord
  simp [f_law_walked, m_law_walked, q, q', l0, e, l2]
end Mi.k03
set_option maxHeartbeats 4000000
namespace Mi.k03
open PySem L2
/-! strict orders -/
structure SO (n : Nat) (R : Nat → Nat → Bool) (rk : Nat → Nat) : Prop where
  lt : ∀ x y, R x y = true → x < n ∧ y < n ∧ rk x < rk y
  tr : ∀ x y z, R x y = true → R y z = true → R x z = true
section
variable {n : Nat} {R : Nat → Nat → Bool} {rk : Nat → Nat}
theorem SO.irr (S : SO n R rk) (x : Nat) (_ : x < n) : R x x = false := by
  cases c : R x x with
  | false => rfl
  | true => exact absurd (S.lt x x c).2.2 (Nat.lt_irrefl _)
theorem cov_iff {x y : Nat} : cov n R x y = true ↔ R x y = true ∧ ∀ z, z < n → R x z = true → R z y = true → False := by
  unfold cov
  rw [Bool.and_eq_true, Bool.not_eq_true', List.any_eq_false]
  refine and_congr_right fun _ => ⟨fun h z hz a b => h z (List.mem_range.mpr hz) (by rw [a, b]; rfl), fun h z hz e => ?_⟩
  obtain ⟨a, b⟩ := Bool.and_eq_true _ _ |>.mp e
  exact h z (List.mem_range.mp hz) a b
theorem rch_sub {Q : List (Nat × Nat)} (S : SO n R rk) (h : ∀ p ∈ Q, R p.1 p.2 = true) {x y : Nat} (r : Rch Q x y) : R x y = true := by
  induction r with
  | one e => exact h _ e
  | step _ e ih => exact S.tr _ _ _ ih (h _ e)
theorem rch_mono {P Q : List (Nat × Nat)} (h : ∀ p ∈ P, p ∈ Q) {x y : Nat} (r : Rch P x y) : Rch Q x y := by
  induction r with
  | one e => exact .one (h _ e)
  | step _ e ih => exact .step ih (h _ e)
theorem cov_mem {p : Nat × Nat} (S : SO n R rk) : p ∈ PS n (cov n R) ↔ cov n R p.1 p.2 = true := by
  rw [PS_mem]
  refine ⟨fun h => h.2.2, fun h => ?_⟩
  have := S.lt _ _ (cov_iff.mp h).1
  exact ⟨this.1, this.2.1, h⟩
/-- the covers lead back -/
theorem cov_rch (S : SO n R rk) : ∀ (d x y : Nat), rk y - rk x ≤ d → R x y = true → Rch (PS n (cov n R)) x y := by
  intro d
  induction d with
  | zero =>
    intro x y hd h
    have := (S.lt x y h).2.2
    omega
  | succ d ih =>
    intro x y hd h
    cases c : cov n R x y with
    | true => exact .one ((cov_mem S).mpr c)
    | false =>
      have : ∃ z, z < n ∧ R x z = true ∧ R z y = true := by
        refine Classical.byContradiction fun q => ?_
        have : cov n R x y = true := cov_iff.mpr ⟨h, fun z hz a b => q ⟨z, hz, a, b⟩⟩
        rw [c] at this
        cases this
      obtain ⟨z, _, a, b⟩ := this
      have h1 := (S.lt _ _ a).2.2
      have h2 := (S.lt _ _ b).2.2
      exact (ih x z (by omega) a).trans (ih z y (by omega) b)
theorem between (S : SO n R rk) {Q : List (Nat × Nat)} (h1 : ∀ p ∈ PS n (cov n R), p ∈ Q) (h2 : ∀ p ∈ Q, R p.1 p.2 = true) {x y : Nat} : R x y = true ↔ Rch Q x y :=
  ⟨fun h => rch_mono h1 (cov_rch S _ x y (Nat.le_refl _) h), rch_sub S h2⟩
end
noncomputable def rb (L : List (Nat × Nat)) (x y : Nat) : Bool := @decide (Rch L x y) (Classical.propDecidable _)
theorem rb_iff {L : List (Nat × Nat)} {x y : Nat} : rb L x y = true ↔ Rch L x y := by
  unfold rb
  exact @decide_eq_true_iff _ (Classical.propDecidable _)
section
variable {n : Nat} {R : Nat → Nat → Bool} {rk : Nat → Nat} {D : List (Nat × Nat)} {i : Nat} {p : Nat × Nat}
theorem SO.rest (S : SO n R rk) (h : ∀ q ∈ D, R q.1 q.2 = true) : SO n (rb D) rk := ⟨fun x y r => S.lt x y (rch_sub S h (rb_iff.mp r)), fun x y z a b => rb_iff.mpr ((rb_iff.mp a).trans (rb_iff.mp b))⟩
theorem rest_not (S : SO n R rk) (hD : D = PS n (cov n R)) (e : D[i]? = some p) : rb (D.eraseIdx i) p.1 p.2 = false := by
  have sub : ∀ q ∈ D.eraseIdx i, q ∈ D := fun q hq => List.mem_of_mem_eraseIdx hq
  have cv : ∀ q ∈ D, cov n R q.1 q.2 = true := fun q hq => by
    rw [hD] at hq
    exact (cov_mem S).mp hq
  have hR : ∀ q ∈ D.eraseIdx i, R q.1 q.2 = true := fun q hq => (cov_iff.mp (cv q (sub q hq))).1
  cases c : rb (D.eraseIdx i) p.1 p.2 with
  | false => rfl
  | true =>
    exfalso
    obtain ⟨z, hz, r⟩ := (rb_iff.mp c).last
    have hz := prds_mem.mp hz
    rcases r with r | r
    · rw [← r] at hz
      have nd : D.Nodup := by
        rw [hD]
        exact ss_nd PS_ss
      obtain ⟨j, hj, hjne, ej⟩ : ∃ j, j < D.length ∧ j ≠ i ∧ D[j]? = some (p.1, p.2) := by
        obtain ⟨j, hj⟩ := List.getElem?_of_mem hz
        rw [List.getElem?_eraseIdx] at hj
        by_cases c : j < i
        · rw [if_pos c] at hj
          exact ⟨j, (List.getElem?_eq_some_iff.mp hj).1, by omega, hj⟩
        · rw [if_neg c] at hj
          exact ⟨j + 1, (List.getElem?_eq_some_iff.mp hj).1, by omega, hj⟩
      have hi := (List.getElem?_eq_some_iff.mp e).1
      have : D[i] = D[j] := by
        rw [(List.getElem?_eq_some_iff.mp e).2, (List.getElem?_eq_some_iff.mp ej).2]
      exact hjne ((List.getElem_inj nd).mp this).symm
    · have a := rch_sub S hR r
      have b := hR _ hz
      have := cov_iff.mp (cv p (List.mem_of_getElem? e))
      exact this.2 z (S.lt _ _ a).2.1 a b
theorem rest_cov (S : SO n R rk) (hD : D = PS n (cov n R)) : PS n (cov n (rb (D.eraseIdx i))) = D.eraseIdx i := by
  have sub : ∀ q ∈ D.eraseIdx i, q ∈ D := fun q hq => List.mem_of_mem_eraseIdx hq
  have cv : ∀ q ∈ D, cov n R q.1 q.2 = true := fun q hq => by
    rw [hD] at hq
    exact (cov_mem S).mp hq
  have hR : ∀ q ∈ D.eraseIdx i, R q.1 q.2 = true := fun q hq => (cov_iff.mp (cv q (sub q hq))).1
  have S' := S.rest hR
  have ss : D.Pairwise ltP := by
    rw [hD]
    exact PS_ss
  refine ss_ext PS_ss (ss.sublist (List.eraseIdx_sublist ..)) fun q => ?_
  rw [cov_mem S', cov_iff]
  constructor
  · rintro ⟨a, b⟩
    obtain ⟨z, hz, r⟩ := (rb_iff.mp a).last
    have hz := prds_mem.mp hz
    rcases r with r | r
    · rw [← r] at hz
      exact hz
    · have := S.lt _ _ (hR _ hz)
      exact (b z this.1 (rb_iff.mpr r) (rb_iff.mpr (.one hz))).elim
  · intro hq
    refine ⟨rb_iff.mpr (.one hq), fun z hz a b => ?_⟩
    exact (cov_iff.mp (cv q (sub q hq))).2 z hz (rch_sub S hR (rb_iff.mp a)) (rch_sub S hR (rb_iff.mp b))
end
/-! values told apart -/
theorem eqvAll_pd : ∀ {A B : List (Nat × Nat)}, PyData.eqvAll (A.map pd) (B.map pd) = decide (A = B)
  | [], [] => rfl
  | [], b :: B => rfl
  | a :: A, [] => rfl
  | a :: A, b :: B => by
    rw [List.map_cons, List.map_cons]
    show (PyData.eqv (pd a) (pd b) && PyData.eqvAll (A.map pd) (B.map pd)) = _
    rw [eqv_pr, eqvAll_pd, Bool.eq_iff_iff, Bool.and_eq_true, decide_eq_true_iff, decide_eq_true_iff, decide_eq_true_iff]
    exact ⟨fun ⟨x, y⟩ => by rw [x, y], fun h => by cases h; exact ⟨rfl, rfl⟩⟩
def od (n : Nat) (R : Nat → Nat → Bool) : PyData := .tuple [.int (n : Int), .tuple ((PS n R).map pd)]
theorem py_ord {n : Nat} {R : Nat → Nat → Bool} : pyOf (ord n R) = some (od n R) := by
  have e : pyOf (.tup ((PS n R).map prV)) = some (.tuple ((PS n R).map pd)) := by
    show (pysOf ((PS n R).map prV)).map PyData.tuple = _
    rw [pys_pr]
    rfl
  show (pysOf [.int (n : Int), .tup ((PS n R).map prV)]).map PyData.tuple = _
  have : pysOf [.int (n : Int), .tup ((PS n R).map prV)] = some [.int (n : Int), .tuple ((PS n R).map pd)] := by
    unfold pysOf pysOf pysOf
    rw [e]
    rfl
  rw [this]
  rfl
theorem shp_ord {n : Nat} {R : Nat → Nat → Bool} : SeqAt.shaped (od n R) = true := by
  unfold SeqAt.shaped
  rw [Bool.and_eq_true, decide_eq_true_iff]
  refine ⟨?_, ?_⟩
  · show (true && (PyData.canLayAll0 ((PS n R).map pd) && true)) = true
    rw [lay_pr]
    rfl
  · have := dep_pr (D := PS n R)
    simp only [od, PyData.depth, PyData.depthAll]
    omega
theorem eqB_ord {n : Nat} {R S : Nat → Nat → Bool} : eqB (ord n R) (ord n S) = some (decide (PS n R = PS n S)) := by
  show (match pyOf (ord n R), pyOf (ord n S) with | some d, some e => if SeqAt.shaped d = true ∧ SeqAt.shaped e = true then some (PyData.eqv d e) else none | _, _ => none) = _
  rw [py_ord, py_ord]
  dsimp only
  rw [if_pos ⟨shp_ord, shp_ord⟩]
  congr 1
  show (((n : Int) == (n : Int)) && (PyData.eqvAll ((PS n R).map pd) ((PS n S).map pd) && true)) = _
  rw [eqvAll_pd, Bool.and_true]
  simp
theorem cut_take {xs : List MV} {i : Nat} (h : i ≤ xs.length) : cutM xs none (some (i : Int)) = xs.take i := by
  unfold cutM
  have e1 : HT.sIx xs.length 0 none = 0 := rfl
  have e2 : HT.sIx xs.length xs.length (some (i : Int)) = i := by
    unfold HT.sIx
    have : ¬ ((i : Int) < 0) := by omega
    simp [this]
    omega
  rw [e1, e2, List.drop_zero, Nat.sub_zero]
theorem cut_drop {xs : List MV} {i : Nat} (h : i ≤ xs.length) : cutM xs (some (i : Int)) none = xs.drop i := by
  unfold cutM
  have e1 : HT.sIx xs.length xs.length none = xs.length := rfl
  have e2 : HT.sIx xs.length 0 (some (i : Int)) = i := by
    unfold HT.sIx
    have : ¬ ((i : Int) < 0) := by omega
    simp [this]
    omega
  rw [e1, e2, List.take_of_length_le (by rw [List.length_drop]; exact Nat.le_refl _)]
theorem al_prs {D : List (Nat × Nat)} {k : Nat} (h : D.length ≤ 100000) : Al (k + 3) (.tup (D.map prV)) := by
  refine ⟨by rw [List.length_map]; exact h, fun x hx => ?_⟩
  obtain ⟨p, _, e⟩ := List.mem_map.mp hx
  subst e
  refine ⟨by show 2 ≤ 100000; omega, fun y hy => ?_⟩
  rcases List.mem_cons.mp hy with e | hy
  · subst e
    exact trivial
  · obtain rfl := List.mem_singleton.mp hy
    exact trivial
theorem alike_prs {D : List (Nat × Nat)} {h : MH} (hl : D.length ≤ 100000) : f_law_alike [.tup (D.map prV), .tup (D.map prV)] h = ok (.bl true) h := alike (k := 5) (al_prs (k := 2) hl)
end Mi.k03
set_option maxHeartbeats 4000000
namespace Mi.k03
open PySem L2
noncomputable def s1 : MM (List MV) := (lcM (rng1 (consA (opM mulF (callM f_law_draw [] (consA (varM 0) (consA (cM (.int 5)) nilA))) (bltM intF (consA (opM gtF (bltM lenF (consA (varM 4) nilA)) (cM (.int 0))) nilA))) nilA)) [6] (one 6) yesT (opM ixF (varM 4) (callM f_law_draw [] (consA (varM 0) (consA (bltM lenF (consA (varM 4) nilA)) nilA)))))
noncomputable def s2 : MT := (ifS (notT (truM (callM f_law_alike [] (consA (callM f_order_of [] (consA (varM 3) (consA (bltM tupF (consA (callM f_law_mingled [] (consA (varM 0) (consA (flsM (catL (flsM (bltL lstF (consA (varM 2) nilA))) (varM 5))) nilA))) nilA)) nilA))) (consA (varM 1) nilA))))) (retS (cM (.bl false))) nilS)
noncomputable def s3 : MT := (seqS (setS 7 (callM f_law_draw [] (consA (varM 0) (consA (bltM lenF (consA (varM 2) nilA)) nilA))))
    (seqS (setS 8 (opM addF (sliT (varM 2) noO (someO (varM 7))) (sliT (varM 2) (someO (opM addF (varM 7) (cM (.int 1)))) noO)))
    (seqS (setS 9 (callM f_law_walked [] (consA (varM 3) (consA (varM 8) nilA))))
    (seqS (ifS (orT (tstM (opM eqF (varM 9) (varM 1))) (orT (tstM (opM inDF (opM ixF (varM 2) (varM 7)) (opM ixF (varM 9) (cM (.int 1))))) (notT (truM (callM f_law_alike [] (consA (callKM f_order_of 0 2 [1, 0] [] nilA (consA (varM 8) (consA (varM 3) nilA))) (consA (varM 9) nilA))))))) (retS (cM (.bl false))) nilS)
    (ifS (notT (truM (callM f_law_alike [] (consA (callM f_covers [] (consA (varM 9) nilA)) (consA (varM 8) nilA))))) (retS (cM (.bl false))) nilS)))))
noncomputable def s4 : MM MIter := (rng1 (consA (opM mulF (cM (.int 2)) (bltM intF (consA (opM gtF (bltM lenF (consA (varM 2) nilA)) (cM (.int 0))) nilA))) nilA))
def stS (l n : Nat) (R : Nat → Nat → Bool) (D : List (Nat × Nat)) (x5 x6 x7 x8 x9 : Option MV) : MS := [some (.ref l), some (ord n R), some (.tup (D.map prV)), some (.int (n : Int)), some (.tup ((PS n R).map prV)), x5, x6, x7, x8, x9]
section
variable {l n : Nat} {R : Nat → Nat → Bool} {rk : Nat → Nat} {D : List (Nat × Nat)}
theorem s1_ {h : MH} (b : Box h l) (hn : n ≤ 64) : ∃ (Q : List (Nat × Nat)) (h' : MH), s1 (stS l n R D none none none none none) h = ok (Q.map prV) h' ∧ (∀ p ∈ Q, p ∈ PS n R) ∧ Q.length ≤ 5 ∧ Box h' l := by
  obtain ⟨d, h1, e1, hd, b1, _⟩ := draw (m := 5) b (by omega) (by omega)
  have e1' : f_law_draw [.ref l, .int 5] h = ok (.int (d : Int)) h1 := e1
  have ll : ((PS n R).map prV).length = (PS n R).length := List.length_map ..
  obtain ⟨P, hP⟩ : ∃ P, PS n R = P := ⟨_, rfl⟩
  have hlen := PS_lim (R := R) hn
  unfold stS ord
  rw [hP] at hlen ll ⊢
  by_cases c : P.length = 0
  · have er : (rng1 (consA (opM mulF (callM f_law_draw [] (consA (varM 0) (consA (cM (.int 5)) nilA))) (bltM intF (consA (opM gtF (bltM lenF (consA (varM 4) nilA)) (cM (.int 0))) nilA))) nilA)) [some (.ref l), some (.tup [.int (n : Int), .tup (P.map prV)]), some (.tup (D.map prV)), some (.int (n : Int)), some (.tup (P.map prV)), none, none, none, none, none] h = ok (.st (runOf 0 0)) h1 := by
      have mo : mulOk (d : Int) 0 := .inl (by omega)
      have c' : P = [] := List.eq_nil_of_length_eq_zero c
      simp [e1', c', mo]
    refine ⟨[], h1, ?_, (fun _ h => absurd h List.not_mem_nil), Nat.zero_le _, b1⟩
    unfold s1 lcM
    rw [er, bnd_ok]
    rfl
  · have c0 : 0 < P.length := by omega
    have er : (rng1 (consA (opM mulF (callM f_law_draw [] (consA (varM 0) (consA (cM (.int 5)) nilA))) (bltM intF (consA (opM gtF (bltM lenF (consA (varM 4) nilA)) (cM (.int 0))) nilA))) nilA)) [some (.ref l), some (.tup [.int (n : Int), .tup (P.map prV)]), some (.tup (D.map prV)), some (.int (n : Int)), some (.tup (P.map prV)), none, none, none, none, none] h = ok (.st (runOf 0 d)) h1 := by
      have mo : mulOk (d : Int) 1 := .inl (by omega)
      have q : (d : Int) ≤ 1000000 := by omega
      have q' : (-1000000 : Int) ≤ d := by omega
      simp [e1', c0, mo, q, q']
    obtain ⟨acc, h2, e2, Q, eQ, sub, len, b2⟩ := lc_runH (n := d) (g := one 6) (cd := yesT) (el := opM ixF (varM 4) (callM f_law_draw [] (consA (varM 0) (consA (bltM lenF (consA (varM 4) nilA)) nilA)))) (s0 := [some (.ref l), some (.tup [.int (n : Int), .tup (P.map prV)]), some (.tup (D.map prV)), some (.int (n : Int)), some (.tup (P.map prV)), none, none, none, none, none]) (h := h1) (fun i acc g => ∃ Q : List (Nat × Nat), acc = Q.map prV ∧ (∀ p ∈ Q, p ∈ P) ∧ Q.length = i ∧ Box g l) ⟨[], rfl, (fun _ h => absurd h List.not_mem_nil), rfl, b1⟩ (fun i acc g hi ⟨Q, eQ, sub, len, bg⟩ => by
      subst eQ
      obtain ⟨k, g', e, hk, b', _⟩ := draw (m := P.length) bg c0 (by omega)
      have at_ : atI (P.map prV) (k : Int) = some (prV P[k]) := atI_nat (by rw [List.getElem?_map, List.getElem?_eq_getElem hk]; rfl)
      refine ⟨_, rfl, true, g, rfl, fun _ => ⟨prV P[k], g', ?_, by rw [List.length_map]; unfold lim; omega, Q ++ [P[k]], by rw [List.map_append]; rfl, fun p hp => ?_, by rw [List.length_append, len]; rfl, b'⟩, fun z => nomatch z⟩
      · simp [e, at_]
      · rcases List.mem_append.mp hp with z | z
        · exact sub p z
        · rw [List.mem_singleton.mp z]
          exact List.getElem_mem hk)
    subst eQ
    refine ⟨Q, h2, ?_, sub, by omega, b2⟩
    unfold s1 lcM
    rw [er, bnd_ok]
    exact e2
theorem s2_ {h : MH} {Q : List (Nat × Nat)} (b : Box h l) (hn : n ≤ 64) (S : SO n R rk) (hD : D = PS n (cov n R)) (hQ : ∀ p ∈ Q, p ∈ PS n R) (lQ : Q.length ≤ 5) : ∃ h', s2 (stS l n R D (some (.fls (Q.map prV))) none none none none) h = some (.nx (stS l n R D (some (.fls (Q.map prV))) none none none none) h') ∧ Box h' l := by
  have lD : D.length ≤ 4096 := by rw [hD]; exact PS_lim hn
  obtain ⟨T, h1, e1, m1, b1⟩ := mingled (h := h) (Q := D ++ Q) b (by rw [List.length_append]; omega)
  have inR : ∀ p ∈ T, R p.1 p.2 = true := fun p hp => by
    rcases List.mem_append.mp ((m1 p).mp hp) with z | z
    · rw [hD] at z
      exact (cov_iff.mp ((cov_mem S).mp z)).1
    · exact (PS_mem.mp (hQ p z)).2.2
  obtain ⟨h2, e2, k2⟩ := order_of (h := h1) (P := T) (R := R) hn (fun p hp => ⟨(S.lt _ _ (inR p hp)).1, (S.lt _ _ (inR p hp)).2.1⟩) (fun x y _ => between S (fun p hp => (m1 p).mpr (List.mem_append_left _ (by rw [hD]; exact hp))) inR) S.irr
  have al := alike_ord (h := h2) (R := R) hn
  have l4 : D.length + Q.length ≤ lim := by unfold lim; omega
  have l5 : D.length ≤ lim := by unfold lim; omega
  refine ⟨h2, ?_, b1.keep k2 fun z => z⟩
  rw [List.map_append] at e1
  unfold stS
  simp [s2, l4, l5, e1, e2, al]
theorem s3_ {h : MH} {t : Int} {x5 x6 x7 x8 x9 : Option MV} (b : Box h l) (hn : n ≤ 64) (S : SO n R rk) (hD : D = PS n (cov n R)) (h0 : 0 < D.length) : ∃ y7 y8 y9 h', turnM (one 6) s3 (.int t) (stS l n R D x5 x6 x7 x8 x9) h = some (.nx (stS l n R D x5 (some (.int t)) y7 y8 y9) h') ∧ Box h' l := by
  have lD : D.length ≤ 4096 := by rw [hD]; exact PS_lim hn
  obtain ⟨i, h1, e1, hi, b1, _⟩ := draw (m := D.length) b h0 (by omega)
  obtain ⟨p, ep⟩ : ∃ p, D[i]? = some p := ⟨_, List.getElem?_eq_getElem hi⟩
  have hR : ∀ q ∈ D.eraseIdx i, R q.1 q.2 = true := fun q hq => by
    have := List.mem_of_mem_eraseIdx hq
    rw [hD] at this
    exact (cov_iff.mp ((cov_mem S).mp this)).1
  have S' := S.rest hR
  have rg : ∀ q ∈ D.eraseIdx i, q.1 < n ∧ q.2 < n := fun q hq => ⟨(S.lt _ _ (hR q hq)).1, (S.lt _ _ (hR q hq)).2.1⟩
  have lE : (D.eraseIdx i).length ≤ 4096 := Nat.le_trans (List.length_eraseIdx_le ..) lD
  have no := rest_not S hD ep
  have cv := rest_cov (i := i) S hD
  obtain ⟨E, hE⟩ : ∃ E, D.eraseIdx i = E := ⟨_, rfl⟩
  rw [hE] at S' rg lE no cv
  obtain ⟨h2, e2, k2⟩ := walked (h := h1) (R := rb E) hn rg (by omega) fun x y => rb_iff
  obtain ⟨h3, e3, k3⟩ := order_of (h := h2) (P := E) (R := rb E) hn rg (fun x y _ => rb_iff) S'.irr
  obtain ⟨h4, e4, k4⟩ := covers_ (h := h3) (R := rb E) hn
  rw [cv] at e4
  have al1 := alike_ord (h := h3) (R := rb E) hn
  have al2 := alike_prs (h := h4) (D := E) (by omega)
  have cut : cutM (D.map prV) none (some (i : Int)) ++ cutM (D.map prV) (some ((i : Int) + 1)) none = E.map prV := by
    have c1 := cut_take (xs := D.map prV) (i := i) (by rw [List.length_map]; omega)
    have c2 := cut_drop (xs := D.map prV) (i := i + 1) (by rw [List.length_map]; omega)
    rw [Int.natCast_add] at c2
    have c2' : cutM (D.map prV) (some ((i : Int) + 1)) none = (D.map prV).drop (i + 1) := c2
    rw [c1, c2', ← hE, List.eraseIdx_eq_take_drop_succ, List.map_append, List.map_take, List.map_drop]
  have lc : (cutM (D.map prV) none (some (i : Int))).length + (cutM (D.map prV) (some ((i : Int) + 1)) none).length ≤ lim := by
    have := congrArg List.length cut
    rw [List.length_append, List.length_map] at this
    rw [this]
    unfold lim
    omega
  have eq1 : eqB (ord n (rb E)) (ord n R) = some false := by
    refine (fun ne : PS n (rb E) ≠ PS n R => ?_ : PS n (rb E) ≠ PS n R → _) fun z => ?_
    · rw [eqB_ord, decide_eq_false ne]
    have hp : p ∈ PS n R := by
      have := List.mem_of_getElem? ep
      rw [hD] at this
      have := PS_mem.mp this
      exact PS_mem.mpr ⟨this.1, this.2.1, (cov_iff.mp this.2.2).1⟩
    rw [← z] at hp
    rw [(PS_mem.mp hp).2.2] at no
    cases no
  have eq2 : inDB h2 (prV p) (.tup ((PS n (rb E)).map prV)) = some false := by
    refine (fun ne : p ∉ PS n (rb E) => ?_ : p ∉ PS n (rb E) → _) fun z => ?_
    · rw [in_pr (D := PS n (rb E)) rfl, decide_eq_false ne]
    rw [(PS_mem.mp z).2.2] at no
    cases no
  have at1 : atI (D.map prV) (i : Int) = some (prV p) := atI_nat (by rw [List.getElem?_map, ep]; rfl)
  have at2 : atI [MV.int (n : Int), .tup ((PS n (rb E)).map prV)] (1 : Int) = some (.tup ((PS n (rb E)).map prV)) := rfl
  refine ⟨some (.int (i : Int)), some (.tup (E.map prV)), some (ord n (rb E)), h4, ?_, ((b1.keep k2 fun z => z).keep k3 fun z => z).keep k4 fun z => z⟩
  obtain ⟨c1, hc1⟩ : ∃ c1, cutM (D.map prV) none (some (i : Int)) = c1 := ⟨_, rfl⟩
  obtain ⟨c2, hc2⟩ : ∃ c2, cutM (D.map prV) (some ((i : Int) + 1)) none = c2 := ⟨_, rfl⟩
  rw [hc1, hc2] at cut lc
  have lDm : (D.map prV).length = D.length := List.length_map ..
  obtain ⟨DV, hDV⟩ : ∃ DV, D.map prV = DV := ⟨_, rfl⟩
  rw [hDV] at hc1 hc2 at1 lDm
  obtain ⟨EV, hEV⟩ : ∃ EV, E.map prV = EV := ⟨_, rfl⟩
  rw [hEV] at cut e2 e3 e4 al2 ⊢
  obtain ⟨OV, hOV⟩ : ∃ OV, ord n R = OV := ⟨_, rfl⟩
  rw [hOV] at eq1
  obtain ⟨pv, hpv⟩ : ∃ pv, prV p = pv := ⟨_, rfl⟩
  rw [hpv] at at1 eq2
  unfold stS
  rw [hDV, hOV]
  obtain ⟨SV, hSV⟩ : ∃ SV, (PS n (rb E)).map prV = SV := ⟨_, rfl⟩
  rw [hSV] at at2 eq2
  have hW : ord n (rb E) = .tup [.int (n : Int), .tup SV] := by unfold ord; rw [hSV]
  rw [hW] at e2 e3 e4 al1 eq1 ⊢
  have u7 : (setS 7 (callM f_law_draw [] (consA (varM 0) (consA (bltM lenF (consA (varM 2) nilA)) nilA)))) [some (.ref l), some OV, some (.tup DV), some (.int (n : Int)), some (.tup ((PS n R).map prV)), x5, some (.int t), x7, x8, x9] h = some (.nx [some (.ref l), some OV, some (.tup DV), some (.int (n : Int)), some (.tup ((PS n R).map prV)), x5, some (.int t), some (.int (i : Int)), x8, x9] h1) := by
    simp [lDm, e1]
  have u8 : (setS 8 (opM addF (sliT (varM 2) noO (someO (varM 7))) (sliT (varM 2) (someO (opM addF (varM 7) (cM (.int 1)))) noO))) [some (.ref l), some OV, some (.tup DV), some (.int (n : Int)), some (.tup ((PS n R).map prV)), x5, some (.int t), some (.int (i : Int)), x8, x9] h1 = some (.nx [some (.ref l), some OV, some (.tup DV), some (.int (n : Int)), some (.tup ((PS n R).map prV)), x5, some (.int t), some (.int (i : Int)), some (.tup EV), x9] h1) := by
    simp [hc1, hc2, lc, cut]
  have u9 : (setS 9 (callM f_law_walked [] (consA (varM 3) (consA (varM 8) nilA)))) [some (.ref l), some OV, some (.tup DV), some (.int (n : Int)), some (.tup ((PS n R).map prV)), x5, some (.int t), some (.int (i : Int)), some (.tup EV), x9] h1 = some (.nx [some (.ref l), some OV, some (.tup DV), some (.int (n : Int)), some (.tup ((PS n R).map prV)), x5, some (.int t), some (.int (i : Int)), some (.tup EV), some (.tup [.int (n : Int), .tup SV])] h2) := by
    simp [e2]
  have u10 : (ifS (orT (tstM (opM eqF (varM 9) (varM 1))) (orT (tstM (opM inDF (opM ixF (varM 2) (varM 7)) (opM ixF (varM 9) (cM (.int 1))))) (notT (truM (callM f_law_alike [] (consA (callKM f_order_of 0 2 [1, 0] [] nilA (consA (varM 8) (consA (varM 3) nilA))) (consA (varM 9) nilA))))))) (retS (cM (.bl false))) nilS) [some (.ref l), some OV, some (.tup DV), some (.int (n : Int)), some (.tup ((PS n R).map prV)), x5, some (.int t), some (.int (i : Int)), some (.tup EV), some (.tup [.int (n : Int), .tup SV])] h2 = some (.nx [some (.ref l), some OV, some (.tup DV), some (.int (n : Int)), some (.tup ((PS n R).map prV)), x5, some (.int t), some (.int (i : Int)), some (.tup EV), some (.tup [.int (n : Int), .tup SV])] h3) := by
    simp [eq1, at1, at2, eq2, e3, al1, pick]
  have u11 : (ifS (notT (truM (callM f_law_alike [] (consA (callM f_covers [] (consA (varM 9) nilA)) (consA (varM 8) nilA))))) (retS (cM (.bl false))) nilS) [some (.ref l), some OV, some (.tup DV), some (.int (n : Int)), some (.tup ((PS n R).map prV)), x5, some (.int t), some (.int (i : Int)), some (.tup EV), some (.tup [.int (n : Int), .tup SV])] h3 = some (.nx [some (.ref l), some OV, some (.tup DV), some (.int (n : Int)), some (.tup ((PS n R).map prV)), x5, some (.int t), some (.int (i : Int)), some (.tup EV), some (.tup [.int (n : Int), .tup SV])] h4) := by
    simp [e4, al2]
  show s3 [some (.ref l), some OV, some (.tup DV), some (.int (n : Int)), some (.tup ((PS n R).map prV)), x5, some (.int t), x7, x8, x9] h = _
  unfold s3
  rw [seq_nx u7, seq_nx u8, seq_nx u9, seq_nx u10, u11]
theorem small {h : MH} (b : Box h l) (hn : n ≤ 64) (S : SO n R rk) (hD : D = PS n (cov n R)) : ∃ h', f_law_small [.ref l, ord n R, .tup (D.map prV)] h = ok (.bl true) h' := by
  obtain ⟨Q, h1, e1, sub, lQ, b1⟩ := s1_ (D := D) (R := R) b hn
  obtain ⟨h2, e2, b2⟩ := s2_ b1 hn S hD sub lQ
  have lD : D.length ≤ 4096 := by rw [hD]; exact PS_lim hn
  have er : ∃ k, s4 (stS l n R D (some (.fls (Q.map prV))) none none none none) h2 = ok (.st (runOf 0 k)) h2 ∧ (0 < k → 0 < D.length) := by
    have ll : (D.map prV).length = D.length := List.length_map ..
    by_cases c : D.length = 0
    · refine ⟨0, ?_, fun z => absurd z (Nat.lt_irrefl _)⟩
      have mo : mulOk 2 0 := .inl (by omega)
      have c' : D = [] := List.eq_nil_of_length_eq_zero c
      simp [s4, stS, c', mo]
    · have c0 : 0 < D.length := by omega
      refine ⟨2, ?_, fun _ => c0⟩
      have mo : mulOk 2 1 := .inl (by omega)
      simp [s4, stS, c0, mo]
  obtain ⟨k, er, hk⟩ := er
  obtain ⟨s', h3, e3, ⟨x6, x7, x8, x9, hs⟩, b3⟩ := for_run (g := one 6) (m := s3) (a := 0) (n := k) (s := stS l n R D (some (.fls (Q.map prV))) none none none none) (h := h2) (fun i s g => (∃ x6 x7 x8 x9, s = stS l n R D (some (.fls (Q.map prV))) x6 x7 x8 x9) ∧ Box g l) ⟨⟨_, _, _, _, rfl⟩, b2⟩ (fun i s g hi ⟨⟨x6, x7, x8, x9, hs⟩, bg⟩ => by
    subst hs
    obtain ⟨y7, y8, y9, g', e, b'⟩ := s3_ (t := 0 + (i : Int)) (x5 := some (.fls (Q.map prV))) (x6 := x6) (x7 := x7) (x8 := x8) (x9 := x9) bg hn S hD (hk (by omega))
    exact ⟨_, g', .inl e, ⟨_, _, _, _, rfl⟩, b'⟩)
  subst hs
  refine ⟨h3, ?_⟩
  have hm : f_law_small = defM 3 10 (seqS (setS 3 (opM ixF (varM 1) (cM (.int 0)))) (seqS (setS 4 (opM ixF (varM 1) (cM (.int 1)))) (seqS (setS 5 (flsM s1)) (seqS s2 (seqS (forM s4 (one 6) s3) (retS (cM (.bl true)))))))) := rfl
  rw [hm]
  have a0 : atI [MV.int (n : Int), .tup ((PS n R).map prV)] (0 : Int) = some (.int (n : Int)) := rfl
  have a1 : atI [MV.int (n : Int), .tup ((PS n R).map prV)] (1 : Int) = some (.tup ((PS n R).map prV)) := rfl
  have u3 : (setS 3 (opM ixF (varM 1) (cM (.int 0)))) [some (.ref l), some (ord n R), some (.tup (D.map prV)), none, none, none, none, none, none, none] h = some (.nx [some (.ref l), some (ord n R), some (.tup (D.map prV)), some (.int (n : Int)), none, none, none, none, none, none] h) := by
    unfold ord
    simp [a0]
  have u4 : (setS 4 (opM ixF (varM 1) (cM (.int 1)))) [some (.ref l), some (ord n R), some (.tup (D.map prV)), some (.int (n : Int)), none, none, none, none, none, none] h = some (.nx (stS l n R D none none none none none) h) := by
    unfold stS ord
    simp [a1]
  have u5 : (setS 5 (flsM s1)) (stS l n R D none none none none none) h = some (.nx (stS l n R D (some (.fls (Q.map prV))) none none none none) h1) := by
    show bndS ((s1 _ h).bnd _) _ = _
    rw [e1]
    rfl
  have u6 : (forM s4 (one 6) s3) (stS l n R D (some (.fls (Q.map prV))) none none none none) h2 = some (.nx (stS l n R D (some (.fls (Q.map prV))) x6 x7 x8 x9) h3) := by
    show bndS _ _ = _
    rw [er]
    exact e3
  refine defM_ret (s := [some (.ref l), some (ord n R), some (.tup (D.map prV)), none, none, none, none, none, none, none]) rfl rfl ?_
  rw [seq_nx u3, seq_nx u4, seq_nx u5, seq_nx e2, seq_nx u6]
  rfl
end
end Mi.k03
set_option maxHeartbeats 4000000
namespace Mi.k03
open PySem L2
theorem box_ (ns : List Int) (hns : ns.length ≤ 63) : ∃ h, f_law_box [.frz (ns.map .int)] [] = ok (.ref 0) h ∧ Box h 0 ∧ h.length = 1 := by
  refine ⟨[bxO ⟨0, 0, 0, 0, 1, ns⟩], ?_, ⟨_, rfl, Int.le_refl _⟩, rfl⟩
  have e := lcS_pure (g := one 1) (cd := yesT) (el := bltM intF (consA (varM 1) nilA)) (s0 := [some (.frz (ns.map .int)), none]) (h := []) (fun _ => true) (fun x => x) (xs := ns.map MV.int) (acc := []) (fun x hx => by
    obtain ⟨i, _, ex⟩ := List.mem_map.mp hx
    subst ex
    exact ⟨_, rfl, rfl, fun _ => rfl⟩) (by
      rw [List.length_map]
      show 0 + ns.length ≤ lim
      unfold lim
      omega)
  rw [List.nil_append, List.filter_eq_self.mpr fun _ _ => rfl, List.map_id'] at e
  have l6 : 6 ≤ lim := by unfold lim; omega
  simp [f_law_box, m_law_box, wipeM, e, l6, bxO]
theorem sub_len : ∀ {l m : List Nat}, l.Nodup → (∀ x ∈ l, x ∈ m) → l.length ≤ m.length
  | [], _, _, _ => Nat.zero_le _
  | x :: l, m, nd, hs => by
    obtain ⟨n1, n2⟩ := List.nodup_cons.mp nd
    have hx := hs x (List.mem_cons_self ..)
    have := sub_len (l := l) (m := m.erase x) n2 fun y hy => (List.mem_erase_of_ne (fun z => n1 (by rw [← z]; exact hy))).mpr (hs y (List.mem_cons_of_mem _ hy))
    rw [List.length_erase_of_mem hx] at this
    have := List.length_pos_of_mem hx
    rw [List.length_cons]
    omega
theorem sur {n : Nat} {ln : Nat → Nat} (hl : ∀ i, i < n → ln i < n) (inj : ∀ i j, i < n → j < n → ln i = ln j → i = j) (y : Nat) (hy : y < n) : ∃ i, i < n ∧ ln i = y := by
  refine Classical.byContradiction fun z => ?_
  have nd : ((List.range n).map ln).Nodup := by
    refine List.pairwise_map.mpr ((List.nodup_range (n := n)).imp_of_mem fun {a b} ha hb h e => h (inj a b (List.mem_range.mp ha) (List.mem_range.mp hb) e))
  have := sub_len (m := (List.range n).erase y) nd fun x hx => by
    obtain ⟨i, hi, e⟩ := List.mem_map.mp hx
    have hi := List.mem_range.mp hi
    subst e
    exact (List.mem_erase_of_ne fun q => z ⟨i, hi, q⟩).mpr (List.mem_range.mpr (hl i hi))
  rw [List.length_erase_of_mem (List.mem_range.mpr hy), List.length_map, List.length_range] at this
  omega
theorem ord_none {n : Nat} : ord n (fun _ _ => false) = .tup [.int (n : Int), .tup []] := by
  have : PS n (fun _ _ => false) = [] := by
    unfold PS
    simp
  unfold ord
  rw [this]
  rfl
theorem links_of {n : Nat} {ln : Nat → Nat} : ∀ {lk : List MV}, Lk n ln lk → ∃ L, lk = L.map prV ∧ Al' n ln L
  | [], _ => ⟨[], rfl, fun _ h => absurd h List.not_mem_nil⟩
  | x :: lk, h => by
    obtain ⟨L, e, a⟩ := links_of (lk := lk) fun y hy => h y (List.mem_cons_of_mem _ hy)
    obtain ⟨j, k, h1, h2, ex⟩ := h x (List.mem_cons_self ..)
    refine ⟨(ln j, ln k) :: L, by rw [List.map_cons, ← e, ex], fun p hp => ?_⟩
    rcases List.mem_cons.mp hp with e | hp
    · subst e
      exact ⟨j, k, h1, h2, rfl, rfl⟩
    · exact a p hp
theorem so_of {n : Nat} {ln : Nat → Nat} {L : List (Nat × Nat)} (hl : ∀ i, i < n → ln i < n) (inj : ∀ i j, i < n → j < n → ln i = ln j → i = j) (al : Al' n ln L) : ∃ rk, SO n (rb L) rk := by
  refine ⟨fun x => if h : x < n then (sur hl inj x h).choose else 0, fun x y r => ?_, fun x y z a b => rb_iff.mpr ((rb_iff.mp a).trans (rb_iff.mp b))⟩
  have rk : ∀ i, i < n → (if h : ln i < n then (sur hl inj (ln i) h).choose else 0) = i := fun i hi => by
    rw [dif_pos (hl i hi)]
    have := (sur hl inj (ln i) (hl i hi)).choose_spec
    exact inj _ _ this.1 hi this.2
  refine (?_ : ∀ x y, Rch L x y → x < n ∧ y < n ∧ (if h : x < n then (sur hl inj x h).choose else 0) < (if h : y < n then (sur hl inj y h).choose else 0)) x y (rb_iff.mp r)
  intro x y r
  induction r with
  | one e =>
    obtain ⟨j, k, h1, h2, e1, e2⟩ := al _ e
    simp only at e1 e2
    subst e1 e2
    refine ⟨hl j (by omega), hl k h2, ?_⟩
    show (if h : ln j < n then _ else 0) < (if h : ln k < n then _ else 0)
    rw [rk j (by omega), rk k h2]
    exact h1
  | step a e ih =>
    obtain ⟨j, k, h1, h2, e1, e2⟩ := al _ e
    simp only at e1 e2
    subst e1 e2
    refine ⟨ih.1, hl k h2, Nat.lt_trans ih.2.2 ?_⟩
    show (if h : ln j < n then _ else 0) < (if h : ln k < n then _ else 0)
    rw [rk j (by omega), rk k h2]
    exact h1
noncomputable def g1 : MT := (ifS (orT (notT (truM (callM f_law_alike [] (consA (varM 8) (consA (varM 7) nilA))))) (notT (truM (callM f_law_alike [] (consA (callM f_order_of [] (consA (varM 3) (consA (varM 8) nilA))) (consA (varM 6) nilA)))))) (retS (cM (.bl false))) nilS)
noncomputable def g2 : MT := (ifS (tstM (opM gtF (varM 3) (cM (.int 14)))) (retS (cM (.bl true))) nilS)
noncomputable def g3 : MT := (ifS (orT (notT (truM (callM f_law_alike [] (consA (callKM f_covers 0 1 [0] [] nilA (consA (varM 6) nilA)) (consA (varM 7) nilA))))) (notT (truM (callM f_law_small [] (consA (varM 1) (consA (varM 6) (consA (varM 7) nilA))))))) (retS (cM (.bl false))) nilS)
noncomputable def g4 : MT := (retS (andV (callM f_law_alike [] (consA (callM f_covers [] (consA (varM 6) nilA)) (consA (varM 7) nilA))) (callM f_law_alike [] (consA (callM f_covers [] (consA (tupM (consA (varM 3) (consA (tupM nilA) nilA))) nilA)) (consA (tupM nilA) nilA)))))
noncomputable def gL : MT := seqS g1 (seqS g2 (seqS g3 g4))
theorem tail {n : Nat} {R : Nat → Nat → Bool} {rk : Nat → Nat} {D : List (Nat × Nat)} {x0 x2 x4 x5 : Option MV} {h : MH} (b : Box h 0) (hn : n ≤ 64) (S : SO n R rk) (hD : D = PS n (cov n R)) :
    ∃ h', gL [x0, some (.ref 0), x2, some (.int (n : Int)), x4, x5, some (ord n R), some (.tup (D.map prV)), some (.tup (D.map prV))] h = some (.ret (.bl true) h') := by
  have l2 : 2 ≤ lim := by unfold lim; omega
  have l0 : 0 ≤ lim := Nat.zero_le _
  have lD : D.length ≤ 4096 := by rw [hD]; exact PS_lim hn
  have al := fun h => alike_prs (h := h) (D := D) (by omega)
  have hR : ∀ p ∈ D, R p.1 p.2 = true := fun p hp => by
    rw [hD] at hp
    exact (cov_iff.mp ((cov_mem S).mp hp)).1
  obtain ⟨h1, e1, k1⟩ := order_of (h := h) (P := D) (R := R) hn (fun p hp => ⟨(S.lt _ _ (hR p hp)).1, (S.lt _ _ (hR p hp)).2.1⟩) (fun x y _ => between S (fun p hp => by rw [hD]; exact hp) hR) S.irr
  have ao := fun h => alike_ord (h := h) (R := R) hn
  have u1 : g1 [x0, some (.ref 0), x2, some (.int (n : Int)), x4, x5, some (ord n R), some (.tup (D.map prV)), some (.tup (D.map prV))] h = some (.nx [x0, some (.ref 0), x2, some (.int (n : Int)), x4, x5, some (ord n R), some (.tup (D.map prV)), some (.tup (D.map prV))] h1) := by
    simp [g1, al, e1, ao]
  by_cases c : 14 < n
  · have c' : (14 : Int) < n := by omega
    refine ⟨h1, ?_⟩
    unfold gL
    rw [seq_nx u1]
    simp [g2, c, c']
  · have c' : ¬ (14 : Int) < n := by omega
    have u2 : g2 [x0, some (.ref 0), x2, some (.int (n : Int)), x4, x5, some (ord n R), some (.tup (D.map prV)), some (.tup (D.map prV))] h1 = some (.nx [x0, some (.ref 0), x2, some (.int (n : Int)), x4, x5, some (ord n R), some (.tup (D.map prV)), some (.tup (D.map prV))] h1) := by
      simp [g2, c, c']
    obtain ⟨h2, e2, k2⟩ := covers_ (h := h1) (R := R) hn
    rw [← hD] at e2
    obtain ⟨h3, e3⟩ := small (h := h2) (D := D) ((b.keep k1 fun z => z).keep k2 fun z => z) hn S hD
    have u3 : g3 [x0, some (.ref 0), x2, some (.int (n : Int)), x4, x5, some (ord n R), some (.tup (D.map prV)), some (.tup (D.map prV))] h1 = some (.nx [x0, some (.ref 0), x2, some (.int (n : Int)), x4, x5, some (ord n R), some (.tup (D.map prV)), some (.tup (D.map prV))] h3) := by
      simp [g3, e2, al, e3, pick]
    obtain ⟨h4, e4, _⟩ := covers_ (h := h3) (R := R) hn
    rw [← hD] at e4
    obtain ⟨h5, e5, _⟩ := covers_ (h := h4) (R := fun _ _ => false) hn
    have e6 : PS n (cov n fun _ _ => false) = [] := by
      unfold PS
      simp [cov]
    rw [ord_none, e6] at e5
    have e5' : f_covers [.tup [.int (n : Int), .tup []]] h4 = ok (.tup []) h5 := e5
    have al0 : f_law_alike [.tup [], .tup []] h5 = ok (.bl true) h5 := alike_prs (D := []) (by show 0 ≤ _; omega)
    refine ⟨h5, ?_⟩
    unfold gL
    rw [seq_nx u1, seq_nx u2, seq_nx u3]
    simp [g4, e4, al, e5', al0, l0, l2]
theorem main : ∀ ns : List Int, ns.length ≤ 63 → ∃ h, f_law [.frz (ns.map .int)] [] = ok (.bl true) h := by
  intro ns hns
  obtain ⟨h0, e0, b0, _⟩ := box_ ns hns
  obtain ⟨n, h1, e1, hn, b1, _⟩ := size b0
  obtain ⟨ln, h2, e2, hl, inj, b2, _⟩ := line (n := n) b1 hn
  obtain ⟨lk, h3, e3, Lk, len, b3, _⟩ := linked (ln := ln) b2 hn
  obtain ⟨L, eL, al⟩ := links_of Lk
  subst eL
  rw [List.length_map] at len
  have ll : (ptV n ln).length = n := tb_len
  have rg : ∀ p ∈ L, p.1 < n ∧ p.2 < n := fun p hp => by
    obtain ⟨j, k, h1, h2, e1, e2⟩ := al p hp
    rw [e1, e2]
    exact ⟨hl j (by omega), hl k h2⟩
  obtain ⟨f, h4, e4, hf, k4⟩ := lower (h := h3) hn hl inj (sur hl inj) al (by omega)
  obtain ⟨rk, S⟩ := so_of hl inj al
  have ef : matV n n f = matV n n (flp (rb L)) := by
    unfold matV
    congr 1
    refine tb_congr fun y hy => ?_
    congr 1
    refine tb_congr fun x _ => ?_
    have : f y x = flp (rb L) y x := by
      rw [Bool.eq_iff_iff, hf y x hy]
      exact rb_iff.symm
    rw [this]
  rw [ef] at e4
  have e5 := fun h => pairs (h := h) (f := flp (rb L)) hn
  obtain ⟨D, h6, e6, ssD, memD, k6⟩ := due (h := h4) (f := flp (rb L)) hn rg (by omega)
  have hD : D = PS n (cov n (rb L)) := by
    refine ss_ext ssD PS_ss fun p => ?_
    rw [memD, cov_mem S, cov_iff, List.any_eq_false]
    constructor
    · rintro ⟨a, b⟩
      exact ⟨rb_iff.mpr (.one a), fun z hz c d => b z (List.mem_range.mpr hz) (by show (rb L p.1 z && rb L z p.2) = true; rw [c, d]; rfl)⟩
    · rintro ⟨a, b⟩
      refine ⟨?_, fun z hz e => ?_⟩
      · obtain ⟨z, hz, r⟩ := (rb_iff.mp a).last
        have hz := prds_mem.mp hz
        rcases r with r | r
        · rw [← r] at hz
          exact hz
        · exact (b z (rg _ hz).1 (rb_iff.mpr r) (rb_iff.mpr (.one hz))).elim
      · have e' : (rb L p.1 z && rb L z p.2) = true := e
        obtain ⟨c, d⟩ := Bool.and_eq_true _ _ |>.mp e'
        exact b z (List.mem_range.mp hz) c d
  obtain ⟨h7, e7, k7⟩ := covers_ (h := h6) (R := rb L) hn
  rw [← hD] at e7
  obtain ⟨h8, e8⟩ := tail (x0 := some (.frz (ns.map .int))) (x2 := some (.fls (ptV n ln))) (x4 := some (.fls (L.map prV))) (x5 := some (matV n n (flp (rb L)))) (h := h7) (((b3.keep k4 fun z => z).keep k6 fun z => z).keep k7 fun z => z) hn S hD
  refine ⟨h8, ?_⟩
  have hm : f_law = defM 1 9 (seqS (setS 1 (callM f_law_box [] (consA (varM 0) nilA)))
    (seqS (setS 2 (callM f_law_line [] (consA (varM 1) (consA (callM f_law_size [] (consA (varM 1) nilA)) nilA))))
    (seqS (setS 3 (bltM lenF (consA (varM 2) nilA)))
    (seqS (setS 4 (callM f_law_linked [] (consA (varM 1) (consA (varM 2) nilA))))
    (seqS (setS 5 (callM f_law_lower [] (consA (varM 2) (consA (varM 4) nilA))))
    (seqS (setS 6 (tupM (consA (varM 3) (consA (callM f_law_pairs [] (consA (varM 5) nilA)) nilA))))
    (seqS (setS 7 (callM f_law_due [] (consA (varM 3) (consA (varM 4) (consA (varM 5) nilA)))))
    (seqS (setS 8 (callM f_covers [] (consA (varM 6) nilA))) gL)))))))) := rfl
  rw [hm]
  have l2 : 2 ≤ lim := by unfold lim; omega
  have e5' : ∀ h, f_law_pairs [matV n n (flp (rb L))] h = ok (.tup ((PS n (rb L)).map prV)) h := e5
  unfold ord at e7 e8
  simp [e0, e1, e2, ll, e3, e4, e5', e6, e7, l2, e8]
end Mi.k03
set_option maxHeartbeats 8000000
namespace Mi.k03
open PySem L2
def topS (i : Nat) : Stmt := PySem.Challenge.pw_strikecore_k03_covers_lead_back.main.body.getD i (.Pass ⟨0, 0, 0, 0⟩)
abbrev s_points_in : Stmt := topS 5
theorem sc_points_in : FnScope ["mask", "found", "lowest"] ["mask"] (defScope s_points_in) := ⟨rfl, rfl, rfl, by decide +kernel, rfl, by decide +kernel, by decide +kernel⟩
abbrev s_is_link : Stmt := topS 8
theorem sc_is_link : FnScope ["n", "link", "x", "y"] ["n", "link"] (defScope s_is_link) := ⟨rfl, rfl, rfl, by decide +kernel, rfl, by decide +kernel, by decide +kernel⟩
abbrev s_high_masks : Stmt := topS 6
theorem sc_high_masks : FnScope ["order", "n", "pairs", "masks", "x", "y"] ["order"] (defScope s_high_masks) := ⟨rfl, rfl, rfl, by decide +kernel, rfl, by decide +kernel, by decide +kernel⟩
abbrev s_ways : Stmt := topS 9
theorem sc_ways : FnScope ["n", "links", "masks", "middle", "x"] ["n", "links"] (defScope s_ways) := ⟨rfl, rfl, rfl, by decide +kernel, rfl, by decide +kernel, by decide +kernel⟩
abbrev s_order_of : Stmt := topS 10
theorem sc_order_of : FnScope ["n", "links", "link", "masks", "ring", "x", "mask", "y"] ["n", "links"] (defScope s_order_of) := ⟨rfl, rfl, rfl, by decide +kernel, rfl, by decide +kernel, by decide +kernel⟩
abbrev s_low_masks : Stmt := topS 7
theorem sc_low_masks : FnScope ["order", "n", "pairs", "masks", "x", "y"] ["order"] (defScope s_low_masks) := ⟨rfl, rfl, rfl, by decide +kernel, rfl, by decide +kernel, by decide +kernel⟩
abbrev s_covers : Stmt := topS 11
theorem sc_covers : FnScope ["order", "highs", "lows", "x", "y"] ["order"] (defScope s_covers) := ⟨rfl, rfl, rfl, by decide +kernel, rfl, by decide +kernel, by decide +kernel⟩
abbrev s_law_box : Stmt := topS 14
theorem sc_law_box : FnScope ["script", "cell"] ["script"] (defScope s_law_box) := ⟨rfl, rfl, rfl, by decide +kernel, rfl, by decide +kernel, by decide +kernel⟩
abbrev s_law_alike : Stmt := topS 16
theorem sc_law_alike : FnScope ["told", "due", "k"] ["told", "due"] (defScope s_law_alike) := ⟨rfl, rfl, rfl, by decide +kernel, rfl, by decide +kernel, by decide +kernel⟩
abbrev s_law_mix : Stmt := topS 13
theorem sc_law_mix : FnScope ["cell", "salt", "one"] ["cell", "salt"] (defScope s_law_mix) := ⟨rfl, rfl, rfl, by decide +kernel, rfl, by decide +kernel, by decide +kernel⟩
abbrev s_law_draw : Stmt := topS 15
theorem sc_law_draw : FnScope ["box", "many", "cell", "drawn"] ["box", "many"] (defScope s_law_draw) := ⟨rfl, rfl, rfl, by decide +kernel, rfl, by decide +kernel, by decide +kernel⟩
abbrev s_law_line : Stmt := topS 17
theorem sc_law_line : FnScope ["box", "n", "left", "k"] ["box", "n"] (defScope s_law_line) := ⟨rfl, rfl, rfl, by decide +kernel, rfl, by decide +kernel, by decide +kernel⟩
abbrev s_law_size : Stmt := topS 18
theorem sc_law_size : FnScope ["box", "kind"] ["box"] (defScope s_law_size) := ⟨rfl, rfl, rfl, by decide +kernel, rfl, by decide +kernel, by decide +kernel⟩
abbrev s_law_linked : Stmt := topS 19
theorem sc_law_linked : FnScope ["box", "line", "kind", "half", "links", "k", "places", "j", "turn"] ["box", "line"] (defScope s_law_linked) := ⟨rfl, rfl, rfl, by decide +kernel, rfl, by decide +kernel, by decide +kernel⟩
abbrev s_law_lower : Stmt := topS 20
theorem sc_law_lower : FnScope ["line", "links", "n", "lower", "x", "y", "ahead", "z"] ["line", "links"] (defScope s_law_lower) := ⟨rfl, rfl, rfl, by decide +kernel, rfl, by decide +kernel, by decide +kernel⟩
abbrev s_law_pairs : Stmt := topS 21
theorem sc_law_pairs : FnScope ["lower", "found", "x", "y"] ["lower"] (defScope s_law_pairs) := ⟨rfl, rfl, rfl, by decide +kernel, rfl, by decide +kernel, by decide +kernel⟩
abbrev s_law_due : Stmt := topS 23
theorem sc_law_due : FnScope ["n", "links", "lower", "found", "x", "y", "z"] ["n", "links", "lower"] (defScope s_law_due) := ⟨rfl, rfl, rfl, by decide +kernel, rfl, by decide +kernel, by decide +kernel⟩
abbrev s_law_mingled : Stmt := topS 22
theorem sc_law_mingled : FnScope ["box", "row", "found", "item"] ["box", "row"] (defScope s_law_mingled) := ⟨rfl, rfl, rfl, by decide +kernel, rfl, by decide +kernel, by decide +kernel⟩
abbrev s_law_reached : Stmt := topS 24
theorem sc_law_reached : FnScope ["n", "links", "start", "is_met", "x", "waiting", "turn", "more", "y"] ["n", "links", "start"] (defScope s_law_reached) := ⟨rfl, rfl, rfl, by decide +kernel, rfl, by decide +kernel, by decide +kernel⟩
abbrev s_law_walked : Stmt := topS 25
theorem sc_law_walked : FnScope ["n", "links", "found", "x", "is_met", "y"] ["n", "links"] (defScope s_law_walked) := ⟨rfl, rfl, rfl, by decide +kernel, rfl, by decide +kernel, by decide +kernel⟩
abbrev s_law_small : Stmt := topS 26
theorem sc_law_small : FnScope ["box", "order", "due", "n", "pairs", "more", "turn", "at", "rest", "other"] ["box", "order", "due"] (defScope s_law_small) := ⟨rfl, rfl, rfl, by decide +kernel, rfl, by decide +kernel, by decide +kernel⟩
abbrev s_law : Stmt := topS 27
theorem sc_law : FnScope ["script", "box", "line", "n", "links", "lower", "order", "due", "told"] ["script"] (defScope s_law) := ⟨rfl, rfl, rfl, by decide +kernel, rfl, by decide +kernel, by decide +kernel⟩
structure Txt (K : PySem.W.Frag) (mg : Str → Option Value) where
  a_points_in : Addr
  d_points_in : FuncData
  F_points_in : Fun K "points_in" "points_in" s_points_in a_points_in d_points_in
  g_points_in : mg "points_in" = some (.ref a_points_in)
  a_is_link : Addr
  d_is_link : FuncData
  F_is_link : Fun K "_is_link" "_is_link" s_is_link a_is_link d_is_link
  g_is_link : mg "_is_link" = some (.ref a_is_link)
  a_high_masks : Addr
  d_high_masks : FuncData
  F_high_masks : Fun K "high_masks" "high_masks" s_high_masks a_high_masks d_high_masks
  g_high_masks : mg "high_masks" = some (.ref a_high_masks)
  a_ways : Addr
  d_ways : FuncData
  F_ways : Fun K "_ways" "_ways" s_ways a_ways d_ways
  g_ways : mg "_ways" = some (.ref a_ways)
  a_order_of : Addr
  d_order_of : FuncData
  F_order_of : Fun K "order_of" "order_of" s_order_of a_order_of d_order_of
  g_order_of : mg "order_of" = some (.ref a_order_of)
  a_low_masks : Addr
  d_low_masks : FuncData
  F_low_masks : Fun K "low_masks" "low_masks" s_low_masks a_low_masks d_low_masks
  g_low_masks : mg "low_masks" = some (.ref a_low_masks)
  a_covers : Addr
  d_covers : FuncData
  F_covers : Fun K "covers" "covers" s_covers a_covers d_covers
  g_covers : mg "covers" = some (.ref a_covers)
  a_law_box : Addr
  d_law_box : FuncData
  F_law_box : Fun K "_law_box" "_law_box" s_law_box a_law_box d_law_box
  g_law_box : mg "_law_box" = some (.ref a_law_box)
  a_law_alike : Addr
  d_law_alike : FuncData
  F_law_alike : Fun K "_law_alike" "_law_alike" s_law_alike a_law_alike d_law_alike
  g_law_alike : mg "_law_alike" = some (.ref a_law_alike)
  a_law_mix : Addr
  d_law_mix : FuncData
  F_law_mix : Fun K "_law_mix" "_law_mix" s_law_mix a_law_mix d_law_mix
  g_law_mix : mg "_law_mix" = some (.ref a_law_mix)
  a_law_draw : Addr
  d_law_draw : FuncData
  F_law_draw : Fun K "_law_draw" "_law_draw" s_law_draw a_law_draw d_law_draw
  g_law_draw : mg "_law_draw" = some (.ref a_law_draw)
  a_law_line : Addr
  d_law_line : FuncData
  F_law_line : Fun K "_law_line" "_law_line" s_law_line a_law_line d_law_line
  g_law_line : mg "_law_line" = some (.ref a_law_line)
  a_law_size : Addr
  d_law_size : FuncData
  F_law_size : Fun K "_law_size" "_law_size" s_law_size a_law_size d_law_size
  g_law_size : mg "_law_size" = some (.ref a_law_size)
  a_law_linked : Addr
  d_law_linked : FuncData
  F_law_linked : Fun K "_law_linked" "_law_linked" s_law_linked a_law_linked d_law_linked
  g_law_linked : mg "_law_linked" = some (.ref a_law_linked)
  a_law_lower : Addr
  d_law_lower : FuncData
  F_law_lower : Fun K "_law_lower" "_law_lower" s_law_lower a_law_lower d_law_lower
  g_law_lower : mg "_law_lower" = some (.ref a_law_lower)
  a_law_pairs : Addr
  d_law_pairs : FuncData
  F_law_pairs : Fun K "_law_pairs" "_law_pairs" s_law_pairs a_law_pairs d_law_pairs
  g_law_pairs : mg "_law_pairs" = some (.ref a_law_pairs)
  a_law_due : Addr
  d_law_due : FuncData
  F_law_due : Fun K "_law_due" "_law_due" s_law_due a_law_due d_law_due
  g_law_due : mg "_law_due" = some (.ref a_law_due)
  a_law_mingled : Addr
  d_law_mingled : FuncData
  F_law_mingled : Fun K "_law_mingled" "_law_mingled" s_law_mingled a_law_mingled d_law_mingled
  g_law_mingled : mg "_law_mingled" = some (.ref a_law_mingled)
  a_law_reached : Addr
  d_law_reached : FuncData
  F_law_reached : Fun K "_law_reached" "_law_reached" s_law_reached a_law_reached d_law_reached
  g_law_reached : mg "_law_reached" = some (.ref a_law_reached)
  a_law_walked : Addr
  d_law_walked : FuncData
  F_law_walked : Fun K "_law_walked" "_law_walked" s_law_walked a_law_walked d_law_walked
  g_law_walked : mg "_law_walked" = some (.ref a_law_walked)
  a_law_small : Addr
  d_law_small : FuncData
  F_law_small : Fun K "_law_small" "_law_small" s_law_small a_law_small d_law_small
  g_law_small : mg "_law_small" = some (.ref a_law_small)
  a_law : Addr
  d_law : FuncData
  F_law : Fun K "law" "law" s_law a_law d_law
  g_law : mg "law" = some (.ref a_law)
  b_abs : mg "abs" = none
  b_any : mg "any" = none
  b_bool : mg "bool" = none
  b_enumerate : mg "enumerate" = none
  b_int : mg "int" = none
  b_isinstance : mg "isinstance" = none
  b_len : mg "len" = none
  b_list : mg "list" = none
  b_min : mg "min" = none
  b_range : mg "range" = none
  b_sorted : mg "sorted" = none
  b_str : mg "str" = none
  b_tuple : mg "tuple" = none
section
variable {P : Program} {w : World} {K : PySem.W.Frag} {mg : Str → Option Value} {base : Heap}
theorem bi_points_in (T : Txt K mg) : Binds K T.d_points_in ["mask"] [] := T.F_points_in.binds fun _ _ _ _ _ _ us hl => match us, hl with | [_], _ => rfl
theorem bi_is_link (T : Txt K mg) : Binds K T.d_is_link ["n", "link"] [] := T.F_is_link.binds fun _ _ _ _ _ _ us hl => match us, hl with | [_, _], _ => rfl
theorem bi_high_masks (T : Txt K mg) : Binds K T.d_high_masks ["order"] [] := T.F_high_masks.binds fun _ _ _ _ _ _ us hl => match us, hl with | [_], _ => rfl
theorem bi_ways (T : Txt K mg) : Binds K T.d_ways ["n", "links"] [] := T.F_ways.binds fun _ _ _ _ _ _ us hl => match us, hl with | [_, _], _ => rfl
theorem bi_order_of (T : Txt K mg) : Binds K T.d_order_of ["n", "links"] [] := T.F_order_of.binds fun _ _ _ _ _ _ us hl => match us, hl with | [_, _], _ => rfl
theorem kb_order_of_0 (T : Txt K mg) : KBn K T.d_order_of ["n", "links"] 0 ["links", "n"] (fun us ws => pick [1, 0] (us ++ ws ++ [])) (fun vs zs => pick [1, 0] (vs ++ zs ++ [])) := by
  obtain ⟨oc, od, kV, doc, pm, an, cdv, ct, osl, e, lk, hcd⟩ := T.F_order_of.ex
  refine ⟨fun s us ws X h1 h2 => ?_, fun r1 r2 => vals_pick ((r1.append r2).append .nil) _⟩
  rw [e]
  exact BindsTo.of_eq (match us, h1, ws, h2 with | [], _, [_, _], _ => rfl)
theorem bi_low_masks (T : Txt K mg) : Binds K T.d_low_masks ["order"] [] := T.F_low_masks.binds fun _ _ _ _ _ _ us hl => match us, hl with | [_], _ => rfl
theorem bi_covers (T : Txt K mg) : Binds K T.d_covers ["order"] [] := T.F_covers.binds fun _ _ _ _ _ _ us hl => match us, hl with | [_], _ => rfl
theorem kb_covers_0 (T : Txt K mg) : KBn K T.d_covers ["order"] 0 ["order"] (fun us ws => pick [0] (us ++ ws ++ [])) (fun vs zs => pick [0] (vs ++ zs ++ [])) := by
  obtain ⟨oc, od, kV, doc, pm, an, cdv, ct, osl, e, lk, hcd⟩ := T.F_covers.ex
  refine ⟨fun s us ws X h1 h2 => ?_, fun r1 r2 => vals_pick ((r1.append r2).append .nil) _⟩
  rw [e]
  exact BindsTo.of_eq (match us, h1, ws, h2 with | [], _, [_], _ => rfl)
theorem bi_law_box (T : Txt K mg) : Binds K T.d_law_box ["script"] [] := T.F_law_box.binds fun _ _ _ _ _ _ us hl => match us, hl with | [_], _ => rfl
theorem bi_law_alike (T : Txt K mg) : Binds K T.d_law_alike ["told", "due"] [] := T.F_law_alike.binds fun _ _ _ _ _ _ us hl => match us, hl with | [_, _], _ => rfl
theorem bi_law_mix (T : Txt K mg) : Binds K T.d_law_mix ["cell", "salt"] [] := T.F_law_mix.binds fun _ _ _ _ _ _ us hl => match us, hl with | [_, _], _ => rfl
theorem bi_law_draw (T : Txt K mg) : Binds K T.d_law_draw ["box", "many"] [] := T.F_law_draw.binds fun _ _ _ _ _ _ us hl => match us, hl with | [_, _], _ => rfl
theorem bi_law_line (T : Txt K mg) : Binds K T.d_law_line ["box", "n"] [] := T.F_law_line.binds fun _ _ _ _ _ _ us hl => match us, hl with | [_, _], _ => rfl
theorem bi_law_size (T : Txt K mg) : Binds K T.d_law_size ["box"] [] := T.F_law_size.binds fun _ _ _ _ _ _ us hl => match us, hl with | [_], _ => rfl
theorem bi_law_linked (T : Txt K mg) : Binds K T.d_law_linked ["box", "line"] [] := T.F_law_linked.binds fun _ _ _ _ _ _ us hl => match us, hl with | [_, _], _ => rfl
theorem bi_law_lower (T : Txt K mg) : Binds K T.d_law_lower ["line", "links"] [] := T.F_law_lower.binds fun _ _ _ _ _ _ us hl => match us, hl with | [_, _], _ => rfl
theorem bi_law_pairs (T : Txt K mg) : Binds K T.d_law_pairs ["lower"] [] := T.F_law_pairs.binds fun _ _ _ _ _ _ us hl => match us, hl with | [_], _ => rfl
theorem bi_law_due (T : Txt K mg) : Binds K T.d_law_due ["n", "links", "lower"] [] := T.F_law_due.binds fun _ _ _ _ _ _ us hl => match us, hl with | [_, _, _], _ => rfl
theorem bi_law_mingled (T : Txt K mg) : Binds K T.d_law_mingled ["box", "row"] [] := T.F_law_mingled.binds fun _ _ _ _ _ _ us hl => match us, hl with | [_, _], _ => rfl
theorem bi_law_reached (T : Txt K mg) : Binds K T.d_law_reached ["n", "links", "start"] [] := T.F_law_reached.binds fun _ _ _ _ _ _ us hl => match us, hl with | [_, _, _], _ => rfl
theorem bi_law_walked (T : Txt K mg) : Binds K T.d_law_walked ["n", "links"] [] := T.F_law_walked.binds fun _ _ _ _ _ _ us hl => match us, hl with | [_, _], _ => rfl
theorem bi_law_small (T : Txt K mg) : Binds K T.d_law_small ["box", "order", "due"] [] := T.F_law_small.binds fun _ _ _ _ _ _ us hl => match us, hl with | [_, _, _], _ => rfl
theorem bi_law (T : Txt K mg) : Binds K T.d_law ["script"] [] := T.F_law.binds fun _ _ _ _ _ _ us hl => match us, hl with | [_], _ => rfl
theorem ok_points_in (T : Txt K mg) : FnOk P w K mg base CX0 1 T.a_points_in T.d_points_in ["mask"] (spM K mg 1 f_points_in) := fn_mir T.F_points_in sc_points_in fun cdv A outer s H E hr =>
    (ss_cons (s_set (i := 1) sc_points_in.nd rfl (Or.inl rfl) (em_ref (lm_lst am_nil)))
    (ss_cons (s_while 70 PassesOwn.never (bm_truth (em_var (pv 0)) fun _ => rfl) (ss_cons (s_set (i := 2) sc_points_in.nd rfl (Or.inl rfl) (em_op op_and opm_and (em_var (pv 0)) (em_un un_neg unm_neg (em_var (pv 0)))))
    (ss_cons (s_expr (em_mth mm_app (pe_bm PySem.F.plainAttrs_list PySem.F.slot_list_append PySem.F.type_list_append mt_append (em_var (pv 1)) (am_cons (em_op op_sub opm_sub (em_bits (em_var (pv 2))) em_int) am_nil))))
    (ss_one (s_set (i := 0) sc_points_in.nd rfl (Or.inl rfl) (em_op op_sub opm_sub (em_var (pv 0)) (em_var (pv 2))))))))
    (ss_one (s_ret (em_bty call_tuple_of cm_tup (by rfl) T.b_tuple PyProof.Rows.boot_tuple (am_cons (em_var (pv 1)) am_nil))))))
theorem ok_is_link (T : Txt K mg) : FnOk P w K mg base CX0 1 T.a_is_link T.d_is_link ["n", "link"] (spM K mg 2 f_is_link) := fn_mir T.F_is_link sc_is_link fun cdv A outer s H E hr =>
    (ss_cons (s_asg (em_var (pv 1)) (pg_tup rfl (pgs_cons (pg_name (i := 2) sc_is_link.nd rfl (by first | exact Or.inl rfl | exact Or.inr rfl)) (pgs_cons (pg_name (i := 3) sc_is_link.nd rfl (by first | exact Or.inl rfl | exact Or.inr rfl)) pgs_nil))) (tg_tup [2, 3]))
    (ss_one (s_ret (em_and (em_chain op_le op_lt opm_le opm_lt em_int (em_var (pv 2)) (em_var (pv 0))) (em_one (em_chain op_le op_lt opm_le opm_lt em_int (em_var (pv 3)) (em_var (pv 0))))))))
theorem ok_high_masks (T : Txt K mg) : FnOk P w K mg base CX0 1 T.a_high_masks T.d_high_masks ["order"] (spM K mg 1 f_high_masks) := fn_mir T.F_high_masks sc_high_masks fun cdv A outer s H E hr =>
    (ss_cons (s_asg (em_var (pv 0)) (pg_tup rfl (pgs_cons (pg_name (i := 1) sc_high_masks.nd rfl (by first | exact Or.inl rfl | exact Or.inr rfl)) (pgs_cons (pg_name (i := 2) sc_high_masks.nd rfl (by first | exact Or.inl rfl | exact Or.inr rfl)) pgs_nil))) (tg_tup [1, 2]))
    (ss_cons (s_set (i := 3) sc_high_masks.nd rfl (Or.inl rfl) (em_ref (lm_rep (em_fls (lm_lst (am_cons em_int am_nil))) (em_var (pv 1)))))
    (ss_cons (s_for PassesOwn.never rfl (im_seq (em_var (pv 2))) (pg_tup rfl (pgs_cons (pg_name (i := 4) sc_high_masks.nd rfl (by first | exact Or.inl rfl | exact Or.inr rfl)) (pgs_cons (pg_name (i := 5) sc_high_masks.nd rfl (by first | exact Or.inl rfl | exact Or.inr rfl)) pgs_nil))) (tg_tup [4, 5]) (ss_one (s_sub (em_op op_or opm_or (em_ix ix_seq opm_ix (em_var (pv 3)) (em_var (pv 4)) (fun _ _ => rfl)) (em_op op_shl opm_shl em_int (em_var (pv 5)))) (em_var (pv 3)) (em_var (pv 4)))))
    (ss_one (s_ret (em_bty call_tuple_of cm_tup (by rfl) T.b_tuple PyProof.Rows.boot_tuple (am_cons (em_var (pv 3)) am_nil)))))))
theorem ok_ways (T : Txt K mg) : FnOk P w K mg base CX0 2 T.a_ways T.d_ways ["n", "links"] (spM K mg 2 f_ways) := fn_mir T.F_ways sc_ways fun cdv A outer s H E hr =>
    (ss_cons (s_set (i := 2) sc_ways.nd rfl (Or.inl rfl) (em_ref (lm_bty call_list_of cl_lst (by rfl) T.b_list PyProof.Rows.boot_list (am_cons (em_call (ok_high_masks T) n_high_masks (hr.mono (by decide)) (by rfl) T.g_high_masks T.F_high_masks.kp (bi_high_masks T) .nil (fun _ => .nil) (am_cons (em_tup (am_cons (em_var (pv 0)) (am_cons (em_var (pv 1)) am_nil))) am_nil)) am_nil))))
    (ss_cons (s_for PassesOwn.never rfl (im_rng1 (by rfl) T.b_range (am_cons (em_var (pv 0)) am_nil)) (pg_name (i := 3) sc_ways.nd rfl (by first | exact Or.inl rfl | exact Or.inr rfl)) (tg_one 3) (ss_one (s_for PassesOwn.never rfl (im_rng1 (by rfl) T.b_range (am_cons (em_var (pv 0)) am_nil)) (pg_name (i := 4) sc_ways.nd rfl (by first | exact Or.inl rfl | exact Or.inr rfl)) (tg_one 4) (ss_one (s_if (bm_truth (em_op op_and opm_and (em_op op_shr opm_shr (em_ix ix_seq opm_ix (em_var (pv 2)) (em_var (pv 4)) (fun _ _ => rfl)) (em_var (pv 3))) em_int) fun _ => rfl) (ss_one (s_sub (em_op op_or opm_or (em_ix ix_seq opm_ix (em_var (pv 2)) (em_var (pv 4)) (fun _ _ => rfl)) (em_ix ix_seq opm_ix (em_var (pv 2)) (em_var (pv 3)) (fun _ _ => rfl))) (em_var (pv 2)) (em_var (pv 4)))) ss_nil)))))
    (ss_one (s_ret (em_frz (em_var (pv 2)))))))
theorem ok_order_of (T : Txt K mg) : FnOk P w K mg base CX0 3 T.a_order_of T.d_order_of ["n", "links"] (spM K mg 2 f_order_of) := fn_mir T.F_order_of sc_order_of fun cdv A outer s H E hr =>
    (ss_cons (s_for PassesOwn.never rfl (im_seq (em_var (pv 1))) (pg_name (i := 2) sc_order_of.nd rfl (by first | exact Or.inl rfl | exact Or.inr rfl)) (tg_one 2) (ss_one (s_if (bm_not (bm_truth (em_call (ok_is_link T) n_is_link (hr.mono (by decide)) (by rfl) T.g_is_link T.F_is_link.kp (bi_is_link T) .nil (fun _ => .nil) (am_cons (em_var (pv 0)) (am_cons (em_var (pv 2)) am_nil))) fun _ => rfl)) (ss_one s_never) ss_nil)))
    (ss_cons (s_set (i := 3) sc_order_of.nd rfl (Or.inr rfl) (em_call (ok_ways T) n_ways (hr.mono (by decide)) (by rfl) T.g_ways T.F_ways.kp (bi_ways T) .nil (fun _ => .nil) (am_cons (em_var (pv 0)) (am_cons (em_var (pv 1)) am_nil))))
    (ss_cons (s_set (i := 4) sc_order_of.nd rfl (Or.inl rfl) (em_bty call_tuple_of cm_tup (by rfl) T.b_tuple PyProof.Rows.boot_tuple (am_cons (em_fls (lm_lc (tc_one (by decide)) (pe_lc (own := [("x", 5)]) rfl sc_order_of.nd (im_rng1 (by rfl) T.b_range (am_cons (em_var (pv 0)) am_nil)) (blkOk_by (by kernel_rfl)) (fun _ _ _ _ _ => (pg_name (i := 5) sc_order_of.nd rfl (by first | exact Or.inl rfl | exact Or.inr rfl))) (fun _ _ _ _ _ => (pts_M (bm_truth (em_op op_and opm_and (em_op op_shr opm_shr (em_ix ix_seq opm_ix (em_var (pv 3)) (em_var (pv 5)) (fun _ _ => rfl)) (em_var (pv 5))) em_int) fun _ => rfl))) (fun _ _ _ _ _ => (em_var (pv 5)))))) am_nil)))
    (ss_cons (s_if (bm_truth (em_var (pv 4)) fun _ => rfl) (ss_one s_never) ss_nil)
    (ss_one (s_ret (em_tup (am_cons (em_var (pv 0)) (am_cons (em_bty call_tuple_of cm_tup (by rfl) T.b_tuple PyProof.Rows.boot_tuple (am_cons (em_frz (em_lc2 (tc_tup [5, 6] (by decide)) (tc_one (by decide)) (pe_lc2 (own := [("x", 5), ("mask", 6), ("y", 7)]) (vs1 := [7]) rfl sc_order_of.nd (im_enm (by rfl) T.b_enumerate (am_cons (em_var (pv 3)) am_nil)) (blkOk_by (by kernel_rfl)) (by decide) (fun _ _ _ _ _ => (pg_tup rfl (pgs_cons (pg_name (i := 5) sc_order_of.nd rfl (by first | exact Or.inl rfl | exact Or.inr rfl)) (pgs_cons (pg_name (i := 6) sc_order_of.nd rfl (by first | exact Or.inl rfl | exact Or.inr rfl)) pgs_nil)))) (fun _ _ _ _ _ => pts_y) (fun _ _ _ _ _ => (im_seq (em_call (ok_points_in T) n_points_in (hr.mono (by decide)) (by rfl) T.g_points_in T.F_points_in.kp (bi_points_in T) .nil (fun _ => .nil) (am_cons (em_var (pv 6)) am_nil)))) (fun _ _ _ _ _ => (pg_name (i := 7) sc_order_of.nd rfl (by first | exact Or.inl rfl | exact Or.inr rfl))) (fun _ _ _ _ _ => pts_y) (fun _ _ _ _ _ => (em_tup (am_cons (em_var (pv 5)) (am_cons (em_var (pv 7)) am_nil))))))) am_nil)) am_nil)))))))))
theorem ok_low_masks (T : Txt K mg) : FnOk P w K mg base CX0 1 T.a_low_masks T.d_low_masks ["order"] (spM K mg 1 f_low_masks) := fn_mir T.F_low_masks sc_low_masks fun cdv A outer s H E hr =>
    (ss_cons (s_asg (em_var (pv 0)) (pg_tup rfl (pgs_cons (pg_name (i := 1) sc_low_masks.nd rfl (by first | exact Or.inl rfl | exact Or.inr rfl)) (pgs_cons (pg_name (i := 2) sc_low_masks.nd rfl (by first | exact Or.inl rfl | exact Or.inr rfl)) pgs_nil))) (tg_tup [1, 2]))
    (ss_cons (s_set (i := 3) sc_low_masks.nd rfl (Or.inl rfl) (em_ref (lm_rep (em_fls (lm_lst (am_cons em_int am_nil))) (em_var (pv 1)))))
    (ss_cons (s_for PassesOwn.never rfl (im_seq (em_var (pv 2))) (pg_tup rfl (pgs_cons (pg_name (i := 4) sc_low_masks.nd rfl (by first | exact Or.inl rfl | exact Or.inr rfl)) (pgs_cons (pg_name (i := 5) sc_low_masks.nd rfl (by first | exact Or.inl rfl | exact Or.inr rfl)) pgs_nil))) (tg_tup [4, 5]) (ss_one (s_sub (em_op op_or opm_or (em_ix ix_seq opm_ix (em_var (pv 3)) (em_var (pv 5)) (fun _ _ => rfl)) (em_op op_shl opm_shl em_int (em_var (pv 4)))) (em_var (pv 3)) (em_var (pv 5)))))
    (ss_one (s_ret (em_bty call_tuple_of cm_tup (by rfl) T.b_tuple PyProof.Rows.boot_tuple (am_cons (em_var (pv 3)) am_nil)))))))
theorem ok_covers (T : Txt K mg) : FnOk P w K mg base CX0 2 T.a_covers T.d_covers ["order"] (spM K mg 1 f_covers) := fn_mir T.F_covers sc_covers fun cdv A outer s H E hr =>
    (ss_cons (s_set (i := 1) sc_covers.nd rfl (Or.inr rfl) (em_call (ok_high_masks T) n_high_masks (hr.mono (by decide)) (by rfl) T.g_high_masks T.F_high_masks.kp (bi_high_masks T) .nil (fun _ => .nil) (am_cons (em_var (pv 0)) am_nil)))
    (ss_cons (s_set (i := 2) sc_covers.nd rfl (Or.inr rfl) (em_call (ok_low_masks T) n_low_masks (hr.mono (by decide)) (by rfl) T.g_low_masks T.F_low_masks.kp (bi_low_masks T) .nil (fun _ => .nil) (am_cons (em_var (pv 0)) am_nil)))
    (ss_one (s_ret (em_bty call_tuple_of cm_tup (by rfl) T.b_tuple PyProof.Rows.boot_tuple (am_cons (em_fls (lm_lc (tc_tup [3, 4] (by decide)) (pe_lc (own := [("x", 3), ("y", 4)]) rfl sc_covers.nd (im_seq (em_ix ix_seq opm_ix (em_var (pv 0)) em_int (fun _ _ => rfl))) (blkOk_by (by kernel_rfl)) (fun _ _ _ _ _ => (pg_tup rfl (pgs_cons (pg_name (i := 3) sc_covers.nd rfl (by first | exact Or.inl rfl | exact Or.inr rfl)) (pgs_cons (pg_name (i := 4) sc_covers.nd rfl (by first | exact Or.inl rfl | exact Or.inr rfl)) pgs_nil)))) (fun _ _ _ _ _ => (pts_M (bm_cmp (op_eqA hr.units) opm_eq (em_op op_and opm_and (em_ix ix_seq opm_ix (em_var (pv 1)) (em_var (pv 3)) (fun _ _ => rfl)) (em_ix ix_seq opm_ix (em_var (pv 2)) (em_var (pv 4)) (fun _ _ => rfl))) em_int (nomark _)))) (fun _ _ _ _ _ => (em_tup (am_cons (em_var (pv 3)) (am_cons (em_var (pv 4)) am_nil))))))) am_nil))))))
theorem ok_law_box (T : Txt K mg) : FnOk P w K mg base CX0 1 T.a_law_box T.d_law_box ["script"] (spM K mg 1 f_law_box) := fn_mir T.F_law_box sc_law_box fun cdv A outer s H E hr =>
    (ss_one (s_ret (em_ref (lm_lst (am_cons em_int (am_cons em_int (am_cons em_int (am_cons em_int (am_cons em_int (am_cons (em_fls (lm_lc (tc_one (by decide)) (pe_lc (own := [("cell", 1)]) rfl sc_law_box.nd (im_seq (em_var (pv 0))) (blkOk_by (by kernel_rfl)) (fun _ _ _ _ _ => (pg_name (i := 1) sc_law_box.nd rfl (by first | exact Or.inl rfl | exact Or.inr rfl))) (fun _ _ _ _ _ => pts_y) (fun _ _ _ _ _ => (em_bty call_int1 cm_int (by rfl) T.b_int PyProof.Rows.boot_int (am_cons (em_var (pv 1)) am_nil)))))) am_nil))))))))))
theorem okr_law_alike (T : Txt K mg) : ∀ j : Nat, FnOk P w K mg base CX0 (1 + j) T.a_law_alike T.d_law_alike ["told", "due"] (spM K mg 2 (fr_law_alike j))
  | 0 => by
    refine ⟨fun vs H Q E h => ?_, fun A outer s H args us vs Q E hr e0 hb r h => ?_⟩
    · obtain ⟨W, h, xs, _, _, _, _, p⟩ := h
      exact p.elim
    · obtain ⟨W, h, xs, _, _, _, _, p⟩ := h
      exact p.elim
  | j + 1 => by
    have ih := okr_law_alike T j
    have hn := nr_law_alike j
    refine fn_mir (k := 1 + j) T.F_law_alike sc_law_alike fun cdv A outer s H E hr => ?_
    exact (ss_cons (s_if (bm_truth (em_isi2 .tuple .list (by decide) (by decide) (by rfl) T.b_isinstance (pe_bltn (by rfl) T.b_tuple PyProof.Rows.boot_tuple rfl) (pe_bltn (by rfl) T.b_list PyProof.Rows.boot_list rfl) (em_var (pv 1))) fun _ => rfl) (ss_cons (s_if (bm_w (wm_or (bm_cmp (op_neA hr.units) opm_ne (em_isi .tuple (by decide) (by rfl) T.b_isinstance (pe_bltn (by rfl) T.b_tuple PyProof.Rows.boot_tuple rfl) (em_var (pv 0))) (em_isi .tuple (by decide) (by rfl) T.b_isinstance (pe_bltn (by rfl) T.b_tuple PyProof.Rows.boot_tuple rfl) (em_var (pv 1))) (nomark _)) (wm_or1 (bm_cmp (op_neA hr.units) opm_ne (em_isi .list (by decide) (by rfl) T.b_isinstance (pe_bltn (by rfl) T.b_list PyProof.Rows.boot_list rfl) (em_var (pv 0))) (em_isi .list (by decide) (by rfl) T.b_isinstance (pe_bltn (by rfl) T.b_list PyProof.Rows.boot_list rfl) (em_var (pv 1))) (nomark _))))) (ss_one (s_ret em_bl)) ss_nil)
    (ss_cons (s_if (bm_cmp (op_neA hr.units) opm_ne (em_blt call_len cm_len (by rfl) T.b_len PySem.boot_len (am_cons (em_var (pv 0)) am_nil)) (em_blt call_len cm_len (by rfl) T.b_len PySem.boot_len (am_cons (em_var (pv 1)) am_nil)) (nomark _)) (ss_one (s_ret em_bl)) ss_nil)
    (ss_cons (s_for PassesOwn.never rfl (im_rng1 (by rfl) T.b_range (am_cons (em_blt call_len cm_len (by rfl) T.b_len PySem.boot_len (am_cons (em_var (pv 1)) am_nil)) am_nil)) (pg_name (i := 2) sc_law_alike.nd rfl (by first | exact Or.inl rfl | exact Or.inr rfl)) (tg_one 2) (ss_one (s_if (bm_not (bm_truth (em_call (ih) (hn) (hr.mono (by omega)) (by rfl) T.g_law_alike T.F_law_alike.kp (bi_law_alike T) .nil (fun _ => .nil) (am_cons (em_ix ix_seq opm_ix (em_var (pv 0)) (em_var (pv 2)) (fun _ _ => rfl)) (am_cons (em_ix ix_seq opm_ix (em_var (pv 1)) (em_var (pv 2)) (fun _ _ => rfl)) am_nil))) fun _ => rfl)) (ss_one (s_ret em_bl)) ss_nil)))
    (ss_one (s_ret em_bl))))) ss_nil)
    (ss_cons (s_if (bm_cmp op_isN opm_isn (em_var (pv 1)) em_non (nomark _)) (ss_one (s_ret (em_cmp op_isN opm_isn (em_var (pv 0)) em_non (nomark _)))) ss_nil)
    (ss_cons (s_if (bm_truth (em_isi .bool (by decide) (by rfl) T.b_isinstance (pe_bltn (by rfl) T.b_bool (by decide +kernel) rfl) (em_var (pv 1))) fun _ => rfl) (ss_one (s_ret (em_and (em_isi .bool (by decide) (by rfl) T.b_isinstance (pe_bltn (by rfl) T.b_bool (by decide +kernel) rfl) (em_var (pv 0))) (em_one (em_cmp (op_eqA hr.units) opm_eq (em_var (pv 0)) (em_var (pv 1)) (nomark _)))))) ss_nil)
    (ss_cons (s_if (bm_truth (em_isi .str (by decide) (by rfl) T.b_isinstance (pe_bltn (by rfl) T.b_str PyProof.Rows.boot_str rfl) (em_var (pv 1))) fun _ => rfl) (ss_one (s_ret (em_and (em_isi .str (by decide) (by rfl) T.b_isinstance (pe_bltn (by rfl) T.b_str PyProof.Rows.boot_str rfl) (em_var (pv 0))) (em_one (em_cmp (op_eqA hr.units) opm_eq (em_var (pv 0)) (em_var (pv 1)) (nomark _)))))) ss_nil)
    (ss_one (s_ret (em_and (em_isi .int (by decide) (by rfl) T.b_isinstance (pe_bltn (by rfl) T.b_int PyProof.Rows.boot_int rfl) (em_var (pv 0))) (em_and (em_not (em_isi .bool (by decide) (by rfl) T.b_isinstance (pe_bltn (by rfl) T.b_bool (by decide +kernel) rfl) (em_var (pv 0)))) (em_one (em_cmp (op_eqA hr.units) opm_eq (em_var (pv 0)) (em_var (pv 1)) (nomark _)))))))))))
theorem ok_law_alike (T : Txt K mg) : FnOk P w K mg base CX0 6 T.a_law_alike T.d_law_alike ["told", "due"] (spM K mg 2 f_law_alike) := okr_law_alike T 5
theorem ok_law_mix (T : Txt K mg) : FnOk P w K mg base CX0 1 T.a_law_mix T.d_law_mix ["cell", "salt"] (spM K mg 2 f_law_mix) := fn_mir T.F_law_mix sc_law_mix fun cdv A outer s H E hr =>
    (ss_cons (s_set (i := 2) sc_law_mix.nd rfl (Or.inl rfl) (em_op op_mod opm_mod (em_bty call_int1 cm_int (by rfl) T.b_int PyProof.Rows.boot_int (am_cons (em_op op_addA opm_add (em_op op_addA opm_add (em_op op_mul opm_mul (em_var (pv 0)) em_int) (em_op op_mul opm_mul (em_var (pv 1)) em_int)) em_int) am_nil)) em_int))
    (ss_one (s_ret (em_op op_mod opm_mod (em_bty call_int1 cm_int (by rfl) T.b_int PyProof.Rows.boot_int (am_cons (em_op op_addA opm_add (em_op op_addA opm_add (em_op op_mul opm_mul (em_var (pv 2)) (em_var (pv 2))) (em_op op_mul opm_mul (em_var (pv 2)) em_int)) (em_op op_mul opm_mul (em_var (pv 1)) em_int)) am_nil)) em_int))))
theorem ok_law_draw (T : Txt K mg) : FnOk P w K mg base CX0 2 T.a_law_draw T.d_law_draw ["box", "many"] (spM K mg 2 f_law_draw) := fn_mir T.F_law_draw sc_law_draw fun cdv A outer s H E hr =>
    (ss_cons (s_if (bm_w (wm_and (bm_w (wm_or (bm_cmp (op_eqA hr.units) opm_eq (em_ix ix_seq opm_ix (em_var (pv 0)) em_int (fun _ _ => rfl)) em_int (nomark _)) (wm_or1 (bm_cmp (op_eqA hr.units) opm_eq (em_ix ix_seq opm_ix (em_var (pv 0)) em_int (fun _ _ => rfl)) em_int (nomark _))))) (wm_and1 (bm_cmp op_lt opm_lt (em_ix ix_seq opm_ix (em_var (pv 0)) em_int (fun _ _ => rfl)) (em_blt call_len cm_len (by rfl) T.b_len PySem.boot_len (am_cons (em_ix ix_seq opm_ix (em_var (pv 0)) em_int (fun _ _ => rfl)) am_nil)) (nomark _))))) (ss_cons (s_set (i := 2) sc_law_draw.nd rfl (Or.inl rfl) (em_ix ix_seq opm_ix (em_ix ix_seq opm_ix (em_var (pv 0)) em_int (fun _ _ => rfl)) (em_ix ix_seq opm_ix (em_var (pv 0)) em_int (fun _ _ => rfl)) (fun _ _ => rfl)))
    (ss_cons (s_sub (em_op op_addA opm_add (em_ix ix_seq opm_ix (em_var (pv 0)) em_int (fun _ _ => rfl)) em_int) (em_var (pv 0)) em_int)
    (ss_cons (s_sub (em_op op_mod opm_mod (em_bty call_int1 cm_int (by rfl) T.b_int PyProof.Rows.boot_int (am_cons (em_op op_addA opm_add (em_op op_mul opm_mul (em_ix ix_seq opm_ix (em_var (pv 0)) em_int (fun _ _ => rfl)) em_int) (em_var (pv 2))) am_nil)) em_int) (em_var (pv 0)) em_int)
    (ss_cons (s_sub em_int (em_var (pv 0)) em_int)
    (ss_cons (s_sub em_int (em_var (pv 0)) em_int)
    (ss_one (s_if (bm_cmp (op_eqA hr.units) opm_eq (em_op op_mod opm_mod (em_bty call_int1 cm_int (by rfl) T.b_int PyProof.Rows.boot_int (am_cons (em_var (pv 2)) am_nil)) em_int) em_int (nomark _)) (ss_one (s_sub (em_op op_fdiv opm_div (em_blt call_abs cm_abs (by rfl) T.b_abs PyProof.Rows.boot_abs (am_cons (em_var (pv 2)) am_nil)) em_int) (em_var (pv 0)) em_int)) ss_nil))))))) ss_nil)
    (ss_cons (s_if (bm_w (wm_and (bm_cmp op_gt opm_gt (em_ix ix_seq opm_ix (em_var (pv 0)) em_int (fun _ _ => rfl)) em_int (nomark _)) (wm_and1 (bm_cmp op_gt opm_gt (em_ix ix_seq opm_ix (em_var (pv 0)) em_int (fun _ _ => rfl)) em_int (nomark _))))) (ss_cons (s_set (i := 3) sc_law_draw.nd rfl (Or.inl rfl) (em_op op_mod opm_mod (em_bty call_int1 cm_int (by rfl) T.b_int PyProof.Rows.boot_int (am_cons (em_ix ix_seq opm_ix (em_var (pv 0)) em_int (fun _ _ => rfl)) am_nil)) (em_var (pv 1))))
    (ss_cons (s_sub (em_op op_fdiv opm_div (em_ix ix_seq opm_ix (em_var (pv 0)) em_int (fun _ _ => rfl)) (em_var (pv 1))) (em_var (pv 0)) em_int)
    (ss_cons (s_sub (em_op op_sub opm_sub (em_ix ix_seq opm_ix (em_var (pv 0)) em_int (fun _ _ => rfl)) em_int) (em_var (pv 0)) em_int)
    (ss_one (s_ret (em_var (pv 3))))))) ss_nil)
    (ss_cons (s_sub (em_op op_addA opm_add (em_ix ix_seq opm_ix (em_var (pv 0)) em_int (fun _ _ => rfl)) em_int) (em_var (pv 0)) em_int)
    (ss_one (s_ret (em_op op_mod opm_mod (em_bty call_int1 cm_int (by rfl) T.b_int PyProof.Rows.boot_int (am_cons (em_call (ok_law_mix T) n_law_mix (hr.mono (by decide)) (by rfl) T.g_law_mix T.F_law_mix.kp (bi_law_mix T) .nil (fun _ => .nil) (am_cons (em_ix ix_seq opm_ix (em_var (pv 0)) em_int (fun _ _ => rfl)) (am_cons (em_ix ix_seq opm_ix (em_var (pv 0)) em_int (fun _ _ => rfl)) am_nil))) am_nil)) (em_var (pv 1))))))))
theorem ok_law_line (T : Txt K mg) : FnOk P w K mg base CX0 3 T.a_law_line T.d_law_line ["box", "n"] (spM K mg 2 f_law_line) := fn_mir T.F_law_line sc_law_line fun cdv A outer s H E hr =>
    (ss_cons (s_set (i := 2) sc_law_line.nd rfl (Or.inr rfl) (em_ref (lm_lc (tc_one (by decide)) (pe_lc (own := [("k", 3)]) rfl sc_law_line.nd (im_rng1 (by rfl) T.b_range (am_cons (em_var (pv 1)) am_nil)) (blkOk_by (by kernel_rfl)) (fun _ _ _ _ _ => (pg_name (i := 3) sc_law_line.nd rfl (by first | exact Or.inl rfl | exact Or.inr rfl))) (fun _ _ _ _ _ => pts_y) (fun _ _ _ _ _ => (em_var (pv 3)))))))
    (ss_one (s_ret (em_fls (lm_lc (tc_one (by decide)) (pe_lc (own := [("k", 3)]) rfl sc_law_line.nd (im_rng1 (by rfl) T.b_range (am_cons (em_var (pv 1)) am_nil)) (blkOk_by (by kernel_rfl)) (fun _ _ _ _ _ => (pg_name (i := 3) sc_law_line.nd rfl (by first | exact Or.inl rfl | exact Or.inr rfl))) (fun _ _ _ _ _ => pts_y) (fun _ _ _ _ _ => (em_mth mm_popAt (pe_bm PySem.F.plainAttrs_list PySem.F.slot_list_pop PySem.F.type_list_pop mt_popAt (em_var (pv 2)) (am_cons (em_call (ok_law_draw T) n_law_draw (hr.mono (by decide)) (by rfl) T.g_law_draw T.F_law_draw.kp (bi_law_draw T) .nil (fun _ => .nil) (am_cons (em_var (pv 0)) (am_cons (em_blt call_len cm_len (by rfl) T.b_len PySem.boot_len (am_cons (em_var (pv 2)) am_nil)) am_nil))) am_nil))))))))))
theorem ok_law_size (T : Txt K mg) : FnOk P w K mg base CX0 3 T.a_law_size T.d_law_size ["box"] (spM K mg 1 f_law_size) := fn_mir T.F_law_size sc_law_size fun cdv A outer s H E hr =>
    (ss_cons (s_set (i := 1) sc_law_size.nd rfl (Or.inl rfl) (em_call (ok_law_draw T) n_law_draw (hr.mono (by decide)) (by rfl) T.g_law_draw T.F_law_draw.kp (bi_law_draw T) .nil (fun _ => .nil) (am_cons (em_var (pv 0)) (am_cons em_int am_nil))))
    (ss_cons (s_if (bm_cmp op_lt opm_lt (em_var (pv 1)) em_int (nomark _)) (ss_one (s_ret (em_call (ok_law_draw T) n_law_draw (hr.mono (by decide)) (by rfl) T.g_law_draw T.F_law_draw.kp (bi_law_draw T) .nil (fun _ => .nil) (am_cons (em_var (pv 0)) (am_cons (em_ix ix_seq opm_ix (em_fls (lm_lst (am_cons em_int (am_cons em_int (am_cons em_int am_nil))))) (em_op op_mod opm_mod (em_bty call_int1 cm_int (by rfl) T.b_int PyProof.Rows.boot_int (am_cons (em_var (pv 1)) am_nil)) em_int) (fun _ _ => rfl)) am_nil))))) ss_nil)
    (ss_cons (s_if (bm_cmp op_lt opm_lt (em_var (pv 1)) em_int (nomark _)) (ss_one (s_ret (em_op op_addA opm_add em_int (em_call (ok_law_draw T) n_law_draw (hr.mono (by decide)) (by rfl) T.g_law_draw T.F_law_draw.kp (bi_law_draw T) .nil (fun _ => .nil) (am_cons (em_var (pv 0)) (am_cons em_int am_nil)))))) ss_nil)
    (ss_one (s_ret (em_ix ix_seq opm_ix (em_fls (lm_lst (am_cons (em_op op_addA opm_add em_int (em_call (ok_law_draw T) n_law_draw (hr.mono (by decide)) (by rfl) T.g_law_draw T.F_law_draw.kp (bi_law_draw T) .nil (fun _ => .nil) (am_cons (em_var (pv 0)) (am_cons em_int am_nil)))) (am_cons em_int am_nil)))) (em_op op_mod opm_mod (em_bty call_int1 cm_int (by rfl) T.b_int PyProof.Rows.boot_int (am_cons (em_var (pv 1)) am_nil)) em_int) (fun _ _ => rfl)))))))
theorem ok_law_linked (T : Txt K mg) : FnOk P w K mg base CX0 3 T.a_law_linked T.d_law_linked ["box", "line"] (spM K mg 2 f_law_linked) := fn_mir T.F_law_linked sc_law_linked fun cdv A outer s H E hr =>
    (ss_cons (s_set (i := 2) sc_law_linked.nd rfl (Or.inl rfl) (em_call (ok_law_draw T) n_law_draw (hr.mono (by decide)) (by rfl) T.g_law_draw T.F_law_draw.kp (bi_law_draw T) .nil (fun _ => .nil) (am_cons (em_var (pv 0)) (am_cons em_int am_nil))))
    (ss_cons (s_set (i := 3) sc_law_linked.nd rfl (Or.inl rfl) (em_op op_fdiv opm_div (em_blt call_len cm_len (by rfl) T.b_len PySem.boot_len (am_cons (em_var (pv 1)) am_nil)) em_int))
    (ss_cons (s_set (i := 4) sc_law_linked.nd rfl (Or.inl rfl) (em_fls (lm_lst am_nil)))
    (ss_cons (s_for PassesOwn.never rfl (im_rng2 (by rfl) T.b_range (am_cons em_int (am_cons (em_blt call_len cm_len (by rfl) T.b_len PySem.boot_len (am_cons (em_var (pv 1)) am_nil)) am_nil))) (pg_name (i := 5) sc_law_linked.nd rfl (by first | exact Or.inl rfl | exact Or.inr rfl)) (tg_one 5) (ss_cons (s_set (i := 6) sc_law_linked.nd rfl (Or.inl rfl) (em_fls (lm_lst am_nil)))
    (ss_cons (s_if (bm_w (wm_and (bm_cmp op_lt opm_lt (em_var (pv 2)) em_int (nomark _)) (wm_and1 (bm_cmp op_lt opm_lt (em_blt call_len cm_len (by rfl) T.b_len PySem.boot_len (am_cons (em_var (pv 1)) am_nil)) em_int (nomark _))))) (ss_one (s_lcF (tc_one (by decide)) (ps_setLc (i := 6) (own := [("j", 7)]) rfl sc_law_linked.nd rfl rfl (sw_true rfl rfl rfl (by decide +kernel)) (im_rng1 (by rfl) T.b_range (am_cons (em_var (pv 5)) am_nil)) (blkOk_by (by kernel_rfl)) (fun _ _ _ _ _ => (pg_name (i := 7) sc_law_linked.nd rfl (by first | exact Or.inl rfl | exact Or.inr rfl))) (fun _ _ _ _ _ => (pts_M (bm_cmp (op_eqA hr.units) opm_eq (em_call (ok_law_draw T) n_law_draw (hr.mono (by decide)) (by rfl) T.g_law_draw T.F_law_draw.kp (bi_law_draw T) .nil (fun _ => .nil) (am_cons (em_var (pv 0)) (am_cons em_int am_nil))) em_int (nomark _)))) (fun _ _ _ _ _ => (em_var (pv 7)))))) (ss_one (s_if (bm_w (wm_and (bm_cmp op_lt opm_lt (em_var (pv 2)) em_int (nomark _)) (wm_and1 (bm_cmp op_lt opm_lt (em_blt call_len cm_len (by rfl) T.b_len PySem.boot_len (am_cons (em_var (pv 1)) am_nil)) em_int (nomark _))))) (ss_one (s_lcF (tc_one (by decide)) (ps_setLc (i := 6) (own := [("j", 7)]) rfl sc_law_linked.nd rfl rfl (sw_true rfl rfl rfl (by decide +kernel)) (im_rng1 (by rfl) T.b_range (am_cons (em_op op_mul opm_mul (em_var (pv 3)) (em_bty call_int1 cm_int (by rfl) T.b_int PyProof.Rows.boot_int (am_cons (em_cmp op_ge opm_ge (em_var (pv 5)) (em_var (pv 3)) (nomark _)) am_nil))) am_nil)) (blkOk_by (by kernel_rfl)) (fun _ _ _ _ _ => (pg_name (i := 7) sc_law_linked.nd rfl (by first | exact Or.inl rfl | exact Or.inr rfl))) (fun _ _ _ _ _ => (pts_M (bm_cmp (op_eqA hr.units) opm_eq (em_call (ok_law_draw T) n_law_draw (hr.mono (by decide)) (by rfl) T.g_law_draw T.F_law_draw.kp (bi_law_draw T) .nil (fun _ => .nil) (am_cons (em_var (pv 0)) (am_cons em_int am_nil))) em_int (nomark _)))) (fun _ _ _ _ _ => (em_var (pv 7)))))) (ss_one (s_if (bm_cmp op_lt opm_lt (em_var (pv 2)) em_int (nomark _)) (ss_one (s_lcF (tc_one (by decide)) (ps_setLc (i := 6) (own := [("turn", 8)]) rfl sc_law_linked.nd rfl rfl (sw_true rfl rfl rfl (by decide +kernel)) (im_rng1 (by rfl) T.b_range (am_cons (em_call (ok_law_draw T) n_law_draw (hr.mono (by decide)) (by rfl) T.g_law_draw T.F_law_draw.kp (bi_law_draw T) .nil (fun _ => .nil) (am_cons (em_var (pv 0)) (am_cons em_int am_nil))) am_nil)) (blkOk_by (by kernel_rfl)) (fun _ _ _ _ _ => (pg_name (i := 8) sc_law_linked.nd rfl (by first | exact Or.inl rfl | exact Or.inr rfl))) (fun _ _ _ _ _ => pts_y) (fun _ _ _ _ _ => (em_call (ok_law_draw T) n_law_draw (hr.mono (by decide)) (by rfl) T.g_law_draw T.F_law_draw.kp (bi_law_draw T) .nil (fun _ => .nil) (am_cons (em_var (pv 0)) (am_cons (em_var (pv 5)) am_nil))))))) (ss_one (s_if (bm_cmp (op_eqA hr.units) opm_eq (em_var (pv 2)) em_int (nomark _)) (ss_one (s_set (i := 6) sc_law_linked.nd rfl (Or.inl rfl) (em_fls (lm_lst (am_cons (em_call (ok_law_draw T) n_law_draw (hr.mono (by decide)) (by rfl) T.g_law_draw T.F_law_draw.kp (bi_law_draw T) .nil (fun _ => .nil) (am_cons (em_var (pv 0)) (am_cons (em_var (pv 5)) am_nil))) am_nil))))) (ss_one (s_if (bm_w (wm_and (bm_cmp (op_eqA hr.units) opm_eq (em_var (pv 2)) em_int (nomark _)) (wm_and1 (bm_cmp op_gt opm_gt (em_call (ok_law_draw T) n_law_draw (hr.mono (by decide)) (by rfl) T.g_law_draw T.F_law_draw.kp (bi_law_draw T) .nil (fun _ => .nil) (am_cons (em_var (pv 0)) (am_cons em_int am_nil))) em_int (nomark _))))) (ss_one (s_lcF (tc_one (by decide)) (ps_setLc (i := 6) (own := [("turn", 8)]) rfl sc_law_linked.nd rfl rfl (sw_true rfl rfl rfl (by decide +kernel)) (im_rng1 (by rfl) T.b_range (am_cons em_int am_nil)) (blkOk_by (by kernel_rfl)) (fun _ _ _ _ _ => (pg_name (i := 8) sc_law_linked.nd rfl (by first | exact Or.inl rfl | exact Or.inr rfl))) (fun _ _ _ _ _ => pts_y) (fun _ _ _ _ _ => (em_op op_sub opm_sub (em_op op_sub opm_sub (em_var (pv 5)) em_int) (em_call (ok_law_draw T) n_law_draw (hr.mono (by decide)) (by rfl) T.g_law_draw T.F_law_draw.kp (bi_law_draw T) .nil (fun _ => .nil) (am_cons (em_var (pv 0)) (am_cons (em_blt (call_min2 rfl) cm_min2 (by rfl) T.b_min PyProof.Rows.boot_min (am_cons (em_var (pv 5)) (am_cons em_int am_nil))) am_nil)))))))) (ss_one (s_if (bm_w (wm_and (bm_cmp (op_eqA hr.units) opm_eq (em_var (pv 2)) em_int (nomark _)) (wm_and1 (bm_cmp op_gt opm_gt (em_call (ok_law_draw T) n_law_draw (hr.mono (by decide)) (by rfl) T.g_law_draw T.F_law_draw.kp (bi_law_draw T) .nil (fun _ => .nil) (am_cons (em_var (pv 0)) (am_cons em_int am_nil))) em_int (nomark _))))) (ss_one (s_set (i := 6) sc_law_linked.nd rfl (Or.inl rfl) (em_fls (lm_lst (am_cons (em_op op_sub opm_sub (em_var (pv 5)) em_int) am_nil))))) ss_nil)))))))))))
    (ss_one (s_set (i := 4) sc_law_linked.nd rfl (Or.inl rfl) (em_fls (lm_cat (em_var (pv 4)) (em_fls (lm_lc (tc_one (by decide)) (pe_lc (own := [("j", 7)]) rfl sc_law_linked.nd (im_seq (em_var (pv 6))) (blkOk_by (by kernel_rfl)) (fun _ _ _ _ _ => (pg_name (i := 7) sc_law_linked.nd rfl (by first | exact Or.inl rfl | exact Or.inr rfl))) (fun _ _ _ _ _ => pts_y) (fun _ _ _ _ _ => (em_tup (am_cons (em_ix ix_seq opm_ix (em_var (pv 1)) (em_var (pv 7)) (fun _ _ => rfl)) (am_cons (em_ix ix_seq opm_ix (em_var (pv 1)) (em_var (pv 5)) (fun _ _ => rfl)) am_nil))))))))))))))
    (ss_one (s_ret (em_var (pv 4))))))))
theorem ok_law_lower (T : Txt K mg) : FnOk P w K mg base CX0 1 T.a_law_lower T.d_law_lower ["line", "links"] (spM K mg 2 f_law_lower) := fn_mir T.F_law_lower sc_law_lower fun cdv A outer s H E hr =>
    (ss_cons (s_set (i := 2) sc_law_lower.nd rfl (Or.inr rfl) (em_blt call_len cm_len (by rfl) T.b_len PySem.boot_len (am_cons (em_var (pv 0)) am_nil)))
    (ss_cons (s_set (i := 3) sc_law_lower.nd rfl (Or.inr rfl) (em_ref (lm_lc (tc_one (by decide)) (pe_lc (own := [("y", 5)]) rfl sc_law_lower.nd (im_rng1 (by rfl) T.b_range (am_cons (em_var (pv 2)) am_nil)) (blkOk_by (by kernel_rfl)) (fun _ _ _ _ _ => (pg_name (i := 5) sc_law_lower.nd rfl (by first | exact Or.inl rfl | exact Or.inr rfl))) (fun _ _ _ _ _ => pts_y) (fun _ _ _ _ _ => (em_ref (lm_lc (tc_one (by decide)) (pe_lc (own := [("x", 4)]) rfl sc_law_lower.nd (im_rng1 (by rfl) T.b_range (am_cons (em_var (pv 2)) am_nil)) (blkOk_by (by kernel_rfl)) (fun _ _ _ _ _ => (pg_name (i := 4) sc_law_lower.nd rfl (by first | exact Or.inl rfl | exact Or.inr rfl))) (fun _ _ _ _ _ => pts_y) (fun _ _ _ _ _ => em_bl)))))))))
    (ss_cons (s_lcR (tc_one (by decide)) (ps_setLc (i := 6) (own := [("y", 5)]) rfl sc_law_lower.nd rfl rfl (sw_true rfl rfl rfl (by decide +kernel)) (im_rng1 (by rfl) T.b_range (am_cons (em_var (pv 2)) am_nil)) (blkOk_by (by kernel_rfl)) (fun _ _ _ _ _ => (pg_name (i := 5) sc_law_lower.nd rfl (by first | exact Or.inl rfl | exact Or.inr rfl))) (fun _ _ _ _ _ => pts_y) (fun _ _ _ _ _ => (em_ref (lm_lst am_nil)))))
    (ss_cons (s_for PassesOwn.never rfl (im_seq (em_var (pv 1))) (pg_tup rfl (pgs_cons (pg_name (i := 4) sc_law_lower.nd rfl (by first | exact Or.inl rfl | exact Or.inr rfl)) (pgs_cons (pg_name (i := 5) sc_law_lower.nd rfl (by first | exact Or.inl rfl | exact Or.inr rfl)) pgs_nil))) (tg_tup [4, 5]) (ss_one (s_expr (em_mth mm_app (pe_bm PySem.F.plainAttrs_list PySem.F.slot_list_append PySem.F.type_list_append mt_append (em_ix ix_seq opm_ix (em_var (pv 6)) (em_var (pv 5)) (fun _ _ => rfl)) (am_cons (em_var (pv 4)) am_nil))))))
    (ss_cons (s_for PassesOwn.never rfl (im_seq (em_var (pv 0))) (pg_name (i := 5) sc_law_lower.nd rfl (by first | exact Or.inl rfl | exact Or.inr rfl)) (tg_one 5) (ss_one (s_for PassesOwn.never rfl (im_seq (em_ix ix_seq opm_ix (em_var (pv 6)) (em_var (pv 5)) (fun _ _ => rfl))) (pg_name (i := 4) sc_law_lower.nd rfl (by first | exact Or.inl rfl | exact Or.inr rfl)) (tg_one 4) (ss_one (s_if (bm_cmp (op_eqA hr.units) opm_eq (em_blt call_len cm_len (by rfl) T.b_len PySem.boot_len (am_cons (em_ix ix_seq opm_ix (em_var (pv 6)) (em_var (pv 4)) (fun _ _ => rfl)) am_nil)) em_int (nomark _)) (ss_one (s_sub em_bl (em_ix ix_seq opm_ix (em_var (pv 3)) (em_var (pv 5)) (fun _ _ => rfl)) (em_var (pv 4)))) (ss_one (s_if (bm_not (bm_truth (em_ix ix_seq opm_ix (em_ix ix_seq opm_ix (em_var (pv 3)) (em_var (pv 5)) (fun _ _ => rfl)) (em_var (pv 4)) (fun _ _ => rfl)) fun _ => rfl)) (ss_one (s_sub (em_ref (lm_lc (tc_one (by decide)) (pe_lc (own := [("z", 7)]) rfl sc_law_lower.nd (im_rng1 (by rfl) T.b_range (am_cons (em_var (pv 2)) am_nil)) (blkOk_by (by kernel_rfl)) (fun _ _ _ _ _ => (pg_name (i := 7) sc_law_lower.nd rfl (by first | exact Or.inl rfl | exact Or.inr rfl))) (fun _ _ _ _ _ => pts_y) (fun _ _ _ _ _ => (em_or (em_ix ix_seq opm_ix (em_ix ix_seq opm_ix (em_var (pv 3)) (em_var (pv 5)) (fun _ _ => rfl)) (em_var (pv 7)) (fun _ _ => rfl)) (em_or (em_ix ix_seq opm_ix (em_ix ix_seq opm_ix (em_var (pv 3)) (em_var (pv 4)) (fun _ _ => rfl)) (em_var (pv 7)) (fun _ _ => rfl)) (em_one (em_cmp (op_eqA hr.units) opm_eq (em_var (pv 7)) (em_var (pv 4)) (nomark _))))))))) (em_var (pv 3)) (em_var (pv 5)))) ss_nil)))))))
    (ss_one (s_ret (em_frz (em_var (pv 3))))))))))
theorem ok_law_pairs (T : Txt K mg) : FnOk P w K mg base CX0 1 T.a_law_pairs T.d_law_pairs ["lower"] (spM K mg 1 f_law_pairs) := fn_mir T.F_law_pairs sc_law_pairs fun cdv A outer s H E hr =>
    (ss_cons (s_set (i := 1) sc_law_pairs.nd rfl (Or.inl rfl) (em_fls (lm_lst am_nil)))
    (ss_cons (s_for PassesOwn.never rfl (im_rng1 (by rfl) T.b_range (am_cons (em_blt call_len cm_len (by rfl) T.b_len PySem.boot_len (am_cons (em_var (pv 0)) am_nil)) am_nil)) (pg_name (i := 2) sc_law_pairs.nd rfl (by first | exact Or.inl rfl | exact Or.inr rfl)) (tg_one 2) (ss_one (s_set (i := 1) sc_law_pairs.nd rfl (Or.inl rfl) (em_fls (lm_cat (em_var (pv 1)) (em_fls (lm_lc (tc_one (by decide)) (pe_lc (own := [("y", 3)]) rfl sc_law_pairs.nd (im_rng1 (by rfl) T.b_range (am_cons (em_blt call_len cm_len (by rfl) T.b_len PySem.boot_len (am_cons (em_var (pv 0)) am_nil)) am_nil)) (blkOk_by (by kernel_rfl)) (fun _ _ _ _ _ => (pg_name (i := 3) sc_law_pairs.nd rfl (by first | exact Or.inl rfl | exact Or.inr rfl))) (fun _ _ _ _ _ => (pts_M (bm_truth (em_ix ix_seq opm_ix (em_ix ix_seq opm_ix (em_var (pv 0)) (em_var (pv 3)) (fun _ _ => rfl)) (em_var (pv 2)) (fun _ _ => rfl)) fun _ => rfl))) (fun _ _ _ _ _ => (em_tup (am_cons (em_var (pv 2)) (am_cons (em_var (pv 3)) am_nil))))))))))))
    (ss_one (s_ret (em_bty call_tuple_of cm_tup (by rfl) T.b_tuple PyProof.Rows.boot_tuple (am_cons (em_var (pv 1)) am_nil))))))
theorem ok_law_due (T : Txt K mg) : FnOk P w K mg base CX0 1 T.a_law_due T.d_law_due ["n", "links", "lower"] (spM K mg 3 f_law_due) := fn_mir T.F_law_due sc_law_due fun cdv A outer s H E hr =>
    (ss_cons (s_set (i := 3) sc_law_due.nd rfl (Or.inl rfl) (em_ref (lm_lst am_nil)))
    (ss_cons (s_for PassesOwn.never rfl (im_seq (em_fls (lm_blt cr_sortedPO cl_sortP (by rfl) T.b_sorted PyProof.Rows.boot_sorted (am_cons (em_var (pv 1)) am_nil)))) (pg_tup rfl (pgs_cons (pg_name (i := 4) sc_law_due.nd rfl (by first | exact Or.inl rfl | exact Or.inr rfl)) (pgs_cons (pg_name (i := 5) sc_law_due.nd rfl (by first | exact Or.inl rfl | exact Or.inr rfl)) pgs_nil))) (tg_tup [4, 5]) (ss_one (s_if (bm_w (wm_and (bm_cmp (op_ninA (units65 hr)) opm_ninA (em_tup (am_cons (em_var (pv 4)) (am_cons (em_var (pv 5)) am_nil))) (em_var (pv 3)) (by with_unfolding_all rfl)) (wm_and1 (bm_not (bm_truth (em_blt (cr_any rfl) cm_any (by rfl) T.b_any (by decide +kernel) (am_cons (em_fls (lm_lc (tc_one (by decide)) (pe_lc (own := [("z", 6)]) rfl sc_law_due.nd (im_rng1 (by rfl) T.b_range (am_cons (em_var (pv 0)) am_nil)) (blkOk_by (by kernel_rfl)) (fun _ _ _ _ _ => (pg_name (i := 6) sc_law_due.nd rfl (by first | exact Or.inl rfl | exact Or.inr rfl))) (fun _ _ _ _ _ => pts_y) (fun _ _ _ _ _ => (em_and (em_ix ix_seq opm_ix (em_ix ix_seq opm_ix (em_var (pv 2)) (em_var (pv 6)) (fun _ _ => rfl)) (em_var (pv 4)) (fun _ _ => rfl)) (em_one (em_ix ix_seq opm_ix (em_ix ix_seq opm_ix (em_var (pv 2)) (em_var (pv 5)) (fun _ _ => rfl)) (em_var (pv 6)) (fun _ _ => rfl)))))))) am_nil)) fun _ => rfl))))) (ss_one (s_expr (em_mth mm_app (pe_bm PySem.F.plainAttrs_list PySem.F.slot_list_append PySem.F.type_list_append mt_append (em_var (pv 3)) (am_cons (em_tup (am_cons (em_var (pv 4)) (am_cons (em_var (pv 5)) am_nil))) am_nil))))) ss_nil)))
    (ss_one (s_ret (em_bty call_tuple_of cm_tup (by rfl) T.b_tuple PyProof.Rows.boot_tuple (am_cons (em_var (pv 3)) am_nil))))))
theorem ok_law_mingled (T : Txt K mg) : FnOk P w K mg base CX0 3 T.a_law_mingled T.d_law_mingled ["box", "row"] (spM K mg 2 f_law_mingled) := fn_mir T.F_law_mingled sc_law_mingled fun cdv A outer s H E hr =>
    (ss_cons (s_set (i := 2) sc_law_mingled.nd rfl (Or.inl rfl) (em_ref (lm_lst am_nil)))
    (ss_cons (s_for PassesOwn.never rfl (im_seq (em_var (pv 1))) (pg_name (i := 3) sc_law_mingled.nd rfl (by first | exact Or.inl rfl | exact Or.inr rfl)) (tg_one 3) (ss_one (s_expr (em_mth mm_ins (pe_bm PySem.F.plainAttrs_list PySem.F.slot_list_insert PySem.F.type_list_insert mt_ins (em_var (pv 2)) (am_cons (em_call (ok_law_draw T) n_law_draw (hr.mono (by decide)) (by rfl) T.g_law_draw T.F_law_draw.kp (bi_law_draw T) .nil (fun _ => .nil) (am_cons (em_var (pv 0)) (am_cons (em_op op_addA opm_add (em_blt call_len cm_len (by rfl) T.b_len PySem.boot_len (am_cons (em_var (pv 2)) am_nil)) em_int) am_nil))) (am_cons (em_var (pv 3)) am_nil)))))))
    (ss_one (s_ret (em_frz (em_var (pv 2)))))))
theorem ok_law_reached (T : Txt K mg) : FnOk P w K mg base CX0 1 T.a_law_reached T.d_law_reached ["n", "links", "start"] (spM K mg 3 f_law_reached) := fn_mir T.F_law_reached sc_law_reached fun cdv A outer s H E hr =>
    (ss_cons (s_lcR (tc_one (by decide)) (ps_setLc (i := 3) (own := [("x", 4)]) rfl sc_law_reached.nd rfl rfl (sw_true rfl rfl rfl (by decide +kernel)) (im_rng1 (by rfl) T.b_range (am_cons (em_var (pv 0)) am_nil)) (blkOk_by (by kernel_rfl)) (fun _ _ _ _ _ => (pg_name (i := 4) sc_law_reached.nd rfl (by first | exact Or.inl rfl | exact Or.inr rfl))) (fun _ _ _ _ _ => pts_y) (fun _ _ _ _ _ => em_bl)))
    (ss_cons (s_set (i := 5) sc_law_reached.nd rfl (Or.inl rfl) (em_fls (lm_lst (am_cons (em_var (pv 2)) am_nil))))
    (ss_cons (s_for PassesOwn.never rfl (im_rng1 (by rfl) T.b_range (am_cons (em_op op_addA opm_add (em_var (pv 0)) em_int) am_nil)) (pg_name (i := 6) sc_law_reached.nd rfl (by first | exact Or.inl rfl | exact Or.inr rfl)) (tg_one 6) (ss_cons (s_if (bm_cmp (op_eqA hr.units) opm_eq (em_blt call_len cm_len (by rfl) T.b_len PySem.boot_len (am_cons (em_var (pv 5)) am_nil)) em_int (nomark _)) (ss_one s_break) ss_nil)
    (ss_cons (s_set (i := 7) sc_law_reached.nd rfl (Or.inl rfl) (em_ref (lm_lst am_nil)))
    (ss_cons (s_for PassesOwn.never rfl (im_seq (em_var (pv 1))) (pg_tup rfl (pgs_cons (pg_name (i := 4) sc_law_reached.nd rfl (by first | exact Or.inl rfl | exact Or.inr rfl)) (pgs_cons (pg_name (i := 8) sc_law_reached.nd rfl (by first | exact Or.inl rfl | exact Or.inr rfl)) pgs_nil))) (tg_tup [4, 8]) (ss_one (s_if (bm_w (wm_and (bm_cmp op_in_seq opm_in (em_var (pv 4)) (em_var (pv 5)) (by with_unfolding_all rfl)) (wm_and1 (bm_not (bm_truth (em_ix ix_seq opm_ix (em_var (pv 3)) (em_var (pv 8)) (fun _ _ => rfl)) fun _ => rfl))))) (ss_cons (s_sub em_bl (em_var (pv 3)) (em_var (pv 8)))
    (ss_one (s_expr (em_mth mm_app (pe_bm PySem.F.plainAttrs_list PySem.F.slot_list_append PySem.F.type_list_append mt_append (em_var (pv 7)) (am_cons (em_var (pv 8)) am_nil)))))) ss_nil)))
    (ss_one (s_set (i := 5) sc_law_reached.nd rfl (Or.inl rfl) (em_var (pv 7))))))))
    (ss_one (s_ret (em_frz (em_var (pv 3))))))))
theorem ok_law_walked (T : Txt K mg) : FnOk P w K mg base CX0 2 T.a_law_walked T.d_law_walked ["n", "links"] (spM K mg 2 f_law_walked) := fn_mir T.F_law_walked sc_law_walked fun cdv A outer s H E hr =>
    (ss_cons (s_set (i := 2) sc_law_walked.nd rfl (Or.inl rfl) (em_fls (lm_lst am_nil)))
    (ss_cons (s_for PassesOwn.never rfl (im_rng1 (by rfl) T.b_range (am_cons (em_var (pv 0)) am_nil)) (pg_name (i := 3) sc_law_walked.nd rfl (by first | exact Or.inl rfl | exact Or.inr rfl)) (tg_one 3) (ss_cons (s_set (i := 4) sc_law_walked.nd rfl (Or.inr rfl) (em_call (ok_law_reached T) n_law_reached (hr.mono (by decide)) (by rfl) T.g_law_reached T.F_law_reached.kp (bi_law_reached T) .nil (fun _ => .nil) (am_cons (em_var (pv 0)) (am_cons (em_var (pv 1)) (am_cons (em_var (pv 3)) am_nil)))))
    (ss_one (s_set (i := 2) sc_law_walked.nd rfl (Or.inl rfl) (em_fls (lm_cat (em_var (pv 2)) (em_fls (lm_lc (tc_one (by decide)) (pe_lc (own := [("y", 5)]) rfl sc_law_walked.nd (im_rng1 (by rfl) T.b_range (am_cons (em_var (pv 0)) am_nil)) (blkOk_by (by kernel_rfl)) (fun _ _ _ _ _ => (pg_name (i := 5) sc_law_walked.nd rfl (by first | exact Or.inl rfl | exact Or.inr rfl))) (fun _ _ _ _ _ => (pts_M (bm_truth (em_ix ix_seq opm_ix (em_var (pv 4)) (em_var (pv 5)) (fun _ _ => rfl)) fun _ => rfl))) (fun _ _ _ _ _ => (em_tup (am_cons (em_var (pv 3)) (am_cons (em_var (pv 5)) am_nil)))))))))))))
    (ss_one (s_ret (em_tup (am_cons (em_var (pv 0)) (am_cons (em_bty call_tuple_of cm_tup (by rfl) T.b_tuple PyProof.Rows.boot_tuple (am_cons (em_var (pv 2)) am_nil)) am_nil)))))))
theorem ok_law_small (T : Txt K mg) : FnOk P w K mg base CX0 7 T.a_law_small T.d_law_small ["box", "order", "due"] (spM K mg 3 f_law_small) := fn_mir T.F_law_small sc_law_small fun cdv A outer s H E hr =>
    (ss_cons (s_set (i := 3) sc_law_small.nd rfl (Or.inl rfl) (em_ix ix_seq opm_ix (em_var (pv 1)) em_int (fun _ _ => rfl)))
    (ss_cons (s_set (i := 4) sc_law_small.nd rfl (Or.inr rfl) (em_ix ix_seq opm_ix (em_var (pv 1)) em_int (fun _ _ => rfl)))
    (ss_cons (s_lcF (tc_one (by decide)) (ps_setLc (i := 5) (own := [("turn", 6)]) rfl sc_law_small.nd rfl rfl (sw_true rfl rfl rfl (by decide +kernel)) (im_rng1 (by rfl) T.b_range (am_cons (em_op op_mul opm_mul (em_call (ok_law_draw T) n_law_draw (hr.mono (by decide)) (by rfl) T.g_law_draw T.F_law_draw.kp (bi_law_draw T) .nil (fun _ => .nil) (am_cons (em_var (pv 0)) (am_cons em_int am_nil))) (em_bty call_int1 cm_int (by rfl) T.b_int PyProof.Rows.boot_int (am_cons (em_cmp op_gt opm_gt (em_blt call_len cm_len (by rfl) T.b_len PySem.boot_len (am_cons (em_var (pv 4)) am_nil)) em_int (nomark _)) am_nil))) am_nil)) (blkOk_by (by kernel_rfl)) (fun _ _ _ _ _ => (pg_name (i := 6) sc_law_small.nd rfl (by first | exact Or.inl rfl | exact Or.inr rfl))) (fun _ _ _ _ _ => pts_y) (fun _ _ _ _ _ => (em_ix ix_seq opm_ix (em_var (pv 4)) (em_call (ok_law_draw T) n_law_draw (hr.mono (by decide)) (by rfl) T.g_law_draw T.F_law_draw.kp (bi_law_draw T) .nil (fun _ => .nil) (am_cons (em_var (pv 0)) (am_cons (em_blt call_len cm_len (by rfl) T.b_len PySem.boot_len (am_cons (em_var (pv 4)) am_nil)) am_nil))) (fun _ _ => rfl)))))
    (ss_cons (s_if (bm_not (bm_truth (em_call (ok_law_alike T) n_law_alike (hr.mono (by decide)) (by rfl) T.g_law_alike T.F_law_alike.kp (bi_law_alike T) .nil (fun _ => .nil) (am_cons (em_call (ok_order_of T) n_order_of (hr.mono (by decide)) (by rfl) T.g_order_of T.F_order_of.kp (bi_order_of T) .nil (fun _ => .nil) (am_cons (em_var (pv 3)) (am_cons (em_bty call_tuple_of cm_tup (by rfl) T.b_tuple PyProof.Rows.boot_tuple (am_cons (em_call (ok_law_mingled T) n_law_mingled (hr.mono (by decide)) (by rfl) T.g_law_mingled T.F_law_mingled.kp (bi_law_mingled T) .nil (fun _ => .nil) (am_cons (em_var (pv 0)) (am_cons (em_fls (lm_cat (em_fls (lm_bty call_list_of cl_lst (by rfl) T.b_list PyProof.Rows.boot_list (am_cons (em_var (pv 2)) am_nil))) (em_var (pv 5)))) am_nil))) am_nil)) am_nil))) (am_cons (em_var (pv 1)) am_nil))) fun _ => rfl)) (ss_one (s_ret em_bl)) ss_nil)
    (ss_cons (s_for PassesOwn.never rfl (im_rng1 (by rfl) T.b_range (am_cons (em_op op_mul opm_mul em_int (em_bty call_int1 cm_int (by rfl) T.b_int PyProof.Rows.boot_int (am_cons (em_cmp op_gt opm_gt (em_blt call_len cm_len (by rfl) T.b_len PySem.boot_len (am_cons (em_var (pv 2)) am_nil)) em_int (nomark _)) am_nil))) am_nil)) (pg_name (i := 6) sc_law_small.nd rfl (by first | exact Or.inl rfl | exact Or.inr rfl)) (tg_one 6) (ss_cons (s_set (i := 7) sc_law_small.nd rfl (Or.inl rfl) (em_call (ok_law_draw T) n_law_draw (hr.mono (by decide)) (by rfl) T.g_law_draw T.F_law_draw.kp (bi_law_draw T) .nil (fun _ => .nil) (am_cons (em_var (pv 0)) (am_cons (em_blt call_len cm_len (by rfl) T.b_len PySem.boot_len (am_cons (em_var (pv 2)) am_nil)) am_nil))))
    (ss_cons (s_set (i := 8) sc_law_small.nd rfl (Or.inl rfl) (em_op op_addA opm_add (em_sli (em_var (pv 2)) om_none (om_some (em_var (pv 7)))) (em_sli (em_var (pv 2)) (om_some (em_op op_addA opm_add (em_var (pv 7)) em_int)) om_none)))
    (ss_cons (s_set (i := 9) sc_law_small.nd rfl (Or.inl rfl) (em_call (ok_law_walked T) n_law_walked (hr.mono (by decide)) (by rfl) T.g_law_walked T.F_law_walked.kp (bi_law_walked T) .nil (fun _ => .nil) (am_cons (em_var (pv 3)) (am_cons (em_var (pv 8)) am_nil))))
    (ss_cons (s_if (bm_w (wm_or (bm_cmp (op_eqA hr.units) opm_eq (em_var (pv 9)) (em_var (pv 1)) (nomark _)) (wm_or (bm_cmp (op_inA (units65 hr)) opm_inA (em_ix ix_seq opm_ix (em_var (pv 2)) (em_var (pv 7)) (fun _ _ => rfl)) (em_ix ix_seq opm_ix (em_var (pv 9)) em_int (fun _ _ => rfl)) (by with_unfolding_all rfl)) (wm_or1 (bm_not (bm_truth (em_call (ok_law_alike T) n_law_alike (hr.mono (by decide)) (by rfl) T.g_law_alike T.F_law_alike.kp (bi_law_alike T) .nil (fun _ => .nil) (am_cons (em_callK0 (ok_order_of T) n_order_of (hr.mono (by decide)) (by rfl) T.g_order_of T.F_order_of.kp (kb_order_of_0 T) (fun _ => .nil) (km_cons (em_var (pv 8)) (km_cons (em_var (pv 3)) km_nil))) (am_cons (em_var (pv 9)) am_nil))) fun _ => rfl)))))) (ss_one (s_ret em_bl)) ss_nil)
    (ss_one (s_if (bm_not (bm_truth (em_call (ok_law_alike T) n_law_alike (hr.mono (by decide)) (by rfl) T.g_law_alike T.F_law_alike.kp (bi_law_alike T) .nil (fun _ => .nil) (am_cons (em_call (ok_covers T) n_covers (hr.mono (by decide)) (by rfl) T.g_covers T.F_covers.kp (bi_covers T) .nil (fun _ => .nil) (am_cons (em_var (pv 9)) am_nil)) (am_cons (em_var (pv 8)) am_nil))) fun _ => rfl)) (ss_one (s_ret em_bl)) ss_nil)))))))
    (ss_one (s_ret em_bl)))))))
theorem ok_law (T : Txt K mg) : FnOk P w K mg base CX0 8 T.a_law T.d_law ["script"] (spM K mg 1 f_law) := fn_mir T.F_law sc_law fun cdv A outer s H E hr =>
    (ss_cons (s_set (i := 1) sc_law.nd rfl (Or.inl rfl) (em_call (ok_law_box T) n_law_box (hr.mono (by decide)) (by rfl) T.g_law_box T.F_law_box.kp (bi_law_box T) .nil (fun _ => .nil) (am_cons (em_var (pv 0)) am_nil)))
    (ss_cons (s_set (i := 2) sc_law.nd rfl (Or.inl rfl) (em_call (ok_law_line T) n_law_line (hr.mono (by decide)) (by rfl) T.g_law_line T.F_law_line.kp (bi_law_line T) .nil (fun _ => .nil) (am_cons (em_var (pv 1)) (am_cons (em_call (ok_law_size T) n_law_size (hr.mono (by decide)) (by rfl) T.g_law_size T.F_law_size.kp (bi_law_size T) .nil (fun _ => .nil) (am_cons (em_var (pv 1)) am_nil)) am_nil))))
    (ss_cons (s_set (i := 3) sc_law.nd rfl (Or.inl rfl) (em_blt call_len cm_len (by rfl) T.b_len PySem.boot_len (am_cons (em_var (pv 2)) am_nil)))
    (ss_cons (s_set (i := 4) sc_law.nd rfl (Or.inl rfl) (em_call (ok_law_linked T) n_law_linked (hr.mono (by decide)) (by rfl) T.g_law_linked T.F_law_linked.kp (bi_law_linked T) .nil (fun _ => .nil) (am_cons (em_var (pv 1)) (am_cons (em_var (pv 2)) am_nil))))
    (ss_cons (s_set (i := 5) sc_law.nd rfl (Or.inl rfl) (em_call (ok_law_lower T) n_law_lower (hr.mono (by decide)) (by rfl) T.g_law_lower T.F_law_lower.kp (bi_law_lower T) .nil (fun _ => .nil) (am_cons (em_var (pv 2)) (am_cons (em_var (pv 4)) am_nil))))
    (ss_cons (s_set (i := 6) sc_law.nd rfl (Or.inl rfl) (em_tup (am_cons (em_var (pv 3)) (am_cons (em_call (ok_law_pairs T) n_law_pairs (hr.mono (by decide)) (by rfl) T.g_law_pairs T.F_law_pairs.kp (bi_law_pairs T) .nil (fun _ => .nil) (am_cons (em_var (pv 5)) am_nil)) am_nil))))
    (ss_cons (s_set (i := 7) sc_law.nd rfl (Or.inl rfl) (em_call (ok_law_due T) n_law_due (hr.mono (by decide)) (by rfl) T.g_law_due T.F_law_due.kp (bi_law_due T) .nil (fun _ => .nil) (am_cons (em_var (pv 3)) (am_cons (em_var (pv 4)) (am_cons (em_var (pv 5)) am_nil)))))
    (ss_cons (s_set (i := 8) sc_law.nd rfl (Or.inl rfl) (em_call (ok_covers T) n_covers (hr.mono (by decide)) (by rfl) T.g_covers T.F_covers.kp (bi_covers T) .nil (fun _ => .nil) (am_cons (em_var (pv 6)) am_nil)))
    (ss_cons (s_if (bm_w (wm_or (bm_not (bm_truth (em_call (ok_law_alike T) n_law_alike (hr.mono (by decide)) (by rfl) T.g_law_alike T.F_law_alike.kp (bi_law_alike T) .nil (fun _ => .nil) (am_cons (em_var (pv 8)) (am_cons (em_var (pv 7)) am_nil))) fun _ => rfl)) (wm_or1 (bm_not (bm_truth (em_call (ok_law_alike T) n_law_alike (hr.mono (by decide)) (by rfl) T.g_law_alike T.F_law_alike.kp (bi_law_alike T) .nil (fun _ => .nil) (am_cons (em_call (ok_order_of T) n_order_of (hr.mono (by decide)) (by rfl) T.g_order_of T.F_order_of.kp (bi_order_of T) .nil (fun _ => .nil) (am_cons (em_var (pv 3)) (am_cons (em_var (pv 8)) am_nil))) (am_cons (em_var (pv 6)) am_nil))) fun _ => rfl))))) (ss_one (s_ret em_bl)) ss_nil)
    (ss_cons (s_if (bm_cmp op_gt opm_gt (em_var (pv 3)) em_int (nomark _)) (ss_one (s_ret em_bl)) ss_nil)
    (ss_cons (s_if (bm_w (wm_or (bm_not (bm_truth (em_call (ok_law_alike T) n_law_alike (hr.mono (by decide)) (by rfl) T.g_law_alike T.F_law_alike.kp (bi_law_alike T) .nil (fun _ => .nil) (am_cons (em_callK0 (ok_covers T) n_covers (hr.mono (by decide)) (by rfl) T.g_covers T.F_covers.kp (kb_covers_0 T) (fun _ => .nil) (km_cons (em_var (pv 6)) km_nil)) (am_cons (em_var (pv 7)) am_nil))) fun _ => rfl)) (wm_or1 (bm_not (bm_truth (em_call (ok_law_small T) n_law_small (hr.mono (by decide)) (by rfl) T.g_law_small T.F_law_small.kp (bi_law_small T) .nil (fun _ => .nil) (am_cons (em_var (pv 1)) (am_cons (em_var (pv 6)) (am_cons (em_var (pv 7)) am_nil)))) fun _ => rfl))))) (ss_one (s_ret em_bl)) ss_nil)
    (ss_one (s_ret (em_and (em_call (ok_law_alike T) n_law_alike (hr.mono (by decide)) (by rfl) T.g_law_alike T.F_law_alike.kp (bi_law_alike T) .nil (fun _ => .nil) (am_cons (em_call (ok_covers T) n_covers (hr.mono (by decide)) (by rfl) T.g_covers T.F_covers.kp (bi_covers T) .nil (fun _ => .nil) (am_cons (em_var (pv 6)) am_nil)) (am_cons (em_var (pv 7)) am_nil))) (em_one (em_call (ok_law_alike T) n_law_alike (hr.mono (by decide)) (by rfl) T.g_law_alike T.F_law_alike.kp (bi_law_alike T) .nil (fun _ => .nil) (am_cons (em_call (ok_covers T) n_covers (hr.mono (by decide)) (by rfl) T.g_covers T.F_covers.kp (bi_covers T) .nil (fun _ => .nil) (am_cons (em_tup (am_cons (em_var (pv 3)) (am_cons (em_tup am_nil) am_nil))) am_nil)) (am_cons (em_tup am_nil) am_nil))))))))))))))))))
end
end Mi.k03
set_option maxHeartbeats 8000000
namespace Mi.k03
open PySem L2
theorem txt_mk {K : PySem.W.Frag} {h : Heap} {mg : Str → Option Value} {fa : Addr} (X : K.In h) (G : h.Ns mainGlobals mg) (hfa : mg "law" = some (.ref fa)) {f0 : Addr} {od0 an0 : Option Addr} {sl0 : Array (Option Value)} {oc0 kV0 dc0 pm0 cd0 ct0 : Value} {f1 : Addr} {od1 an1 : Option Addr} {sl1 : Array (Option Value)} {oc1 kV1 dc1 pm1 cd1 ct1 : Value} {f2 : Addr} {od2 an2 : Option Addr} {sl2 : Array (Option Value)} {oc2 kV2 dc2 pm2 cd2 ct2 : Value} {f3 : Addr} {od3 an3 : Option Addr} {sl3 : Array (Option Value)} {oc3 kV3 dc3 pm3 cd3 ct3 : Value} {f4 : Addr} {od4 an4 : Option Addr} {sl4 : Array (Option Value)} {oc4 kV4 dc4 pm4 cd4 ct4 : Value} {f5 : Addr} {od5 an5 : Option Addr} {sl5 : Array (Option Value)} {oc5 kV5 dc5 pm5 cd5 ct5 : Value} {f6 : Addr} {od6 an6 : Option Addr} {sl6 : Array (Option Value)} {oc6 kV6 dc6 pm6 cd6 ct6 : Value} {f7 : Addr} {od7 an7 : Option Addr} {sl7 : Array (Option Value)} {oc7 kV7 dc7 pm7 cd7 ct7 : Value} {f8 : Addr} {od8 an8 : Option Addr} {sl8 : Array (Option Value)} {oc8 kV8 dc8 pm8 cd8 ct8 : Value} {f9 : Addr} {od9 an9 : Option Addr} {sl9 : Array (Option Value)} {oc9 kV9 dc9 pm9 cd9 ct9 : Value} {f10 : Addr} {od10 an10 : Option Addr} {sl10 : Array (Option Value)} {oc10 kV10 dc10 pm10 cd10 ct10 : Value} {f11 : Addr} {od11 an11 : Option Addr} {sl11 : Array (Option Value)} {oc11 kV11 dc11 pm11 cd11 ct11 : Value} {f12 : Addr} {od12 an12 : Option Addr} {sl12 : Array (Option Value)} {oc12 kV12 dc12 pm12 cd12 ct12 : Value} {f13 : Addr} {od13 an13 : Option Addr} {sl13 : Array (Option Value)} {oc13 kV13 dc13 pm13 cd13 ct13 : Value} {f14 : Addr} {od14 an14 : Option Addr} {sl14 : Array (Option Value)} {oc14 kV14 dc14 pm14 cd14 ct14 : Value} {f15 : Addr} {od15 an15 : Option Addr} {sl15 : Array (Option Value)} {oc15 kV15 dc15 pm15 cd15 ct15 : Value} {f16 : Addr} {od16 an16 : Option Addr} {sl16 : Array (Option Value)} {oc16 kV16 dc16 pm16 cd16 ct16 : Value} {f17 : Addr} {od17 an17 : Option Addr} {sl17 : Array (Option Value)} {oc17 kV17 dc17 pm17 cd17 ct17 : Value} {f18 : Addr} {od18 an18 : Option Addr} {sl18 : Array (Option Value)} {oc18 kV18 dc18 pm18 cd18 ct18 : Value} {f19 : Addr} {od19 an19 : Option Addr} {sl19 : Array (Option Value)} {oc19 kV19 dc19 pm19 cd19 ct19 : Value} {f20 : Addr} {od20 an20 : Option Addr} {sl20 : Array (Option Value)} {oc20 kV20 dc20 pm20 cd20 ct20 : Value} {f21 : Addr} {od21 an21 : Option Addr} {sl21 : Array (Option Value)} {oc21 kV21 dc21 pm21 cd21 ct21 : Value}
    (a0 : PySem.W.nsIn K mainGlobals "points_in" = some (some (.ref f0)))
    (l0 : K.lookup f0 = some ⟨oc0, od0, .func (PySem.W.fnOf "points_in" "points_in" (defArgs s_points_in) (defBody s_points_in) (defScope s_points_in) .none kV0 dc0 pm0 an0 cd0 ct0), sl0⟩)
    (c0 : PySem.W.codeIn K cd0 "points_in" = true)
    (k0 : PySem.W.keepIn K (.ref f0) = true)
    (a1 : PySem.W.nsIn K mainGlobals "_is_link" = some (some (.ref f1)))
    (l1 : K.lookup f1 = some ⟨oc1, od1, .func (PySem.W.fnOf "_is_link" "_is_link" (defArgs s_is_link) (defBody s_is_link) (defScope s_is_link) .none kV1 dc1 pm1 an1 cd1 ct1), sl1⟩)
    (c1 : PySem.W.codeIn K cd1 "_is_link" = true)
    (k1 : PySem.W.keepIn K (.ref f1) = true)
    (a2 : PySem.W.nsIn K mainGlobals "high_masks" = some (some (.ref f2)))
    (l2 : K.lookup f2 = some ⟨oc2, od2, .func (PySem.W.fnOf "high_masks" "high_masks" (defArgs s_high_masks) (defBody s_high_masks) (defScope s_high_masks) .none kV2 dc2 pm2 an2 cd2 ct2), sl2⟩)
    (c2 : PySem.W.codeIn K cd2 "high_masks" = true)
    (k2 : PySem.W.keepIn K (.ref f2) = true)
    (a3 : PySem.W.nsIn K mainGlobals "_ways" = some (some (.ref f3)))
    (l3 : K.lookup f3 = some ⟨oc3, od3, .func (PySem.W.fnOf "_ways" "_ways" (defArgs s_ways) (defBody s_ways) (defScope s_ways) .none kV3 dc3 pm3 an3 cd3 ct3), sl3⟩)
    (c3 : PySem.W.codeIn K cd3 "_ways" = true)
    (k3 : PySem.W.keepIn K (.ref f3) = true)
    (a4 : PySem.W.nsIn K mainGlobals "order_of" = some (some (.ref f4)))
    (l4 : K.lookup f4 = some ⟨oc4, od4, .func (PySem.W.fnOf "order_of" "order_of" (defArgs s_order_of) (defBody s_order_of) (defScope s_order_of) .none kV4 dc4 pm4 an4 cd4 ct4), sl4⟩)
    (c4 : PySem.W.codeIn K cd4 "order_of" = true)
    (k4 : PySem.W.keepIn K (.ref f4) = true)
    (a5 : PySem.W.nsIn K mainGlobals "low_masks" = some (some (.ref f5)))
    (l5 : K.lookup f5 = some ⟨oc5, od5, .func (PySem.W.fnOf "low_masks" "low_masks" (defArgs s_low_masks) (defBody s_low_masks) (defScope s_low_masks) .none kV5 dc5 pm5 an5 cd5 ct5), sl5⟩)
    (c5 : PySem.W.codeIn K cd5 "low_masks" = true)
    (k5 : PySem.W.keepIn K (.ref f5) = true)
    (a6 : PySem.W.nsIn K mainGlobals "covers" = some (some (.ref f6)))
    (l6 : K.lookup f6 = some ⟨oc6, od6, .func (PySem.W.fnOf "covers" "covers" (defArgs s_covers) (defBody s_covers) (defScope s_covers) .none kV6 dc6 pm6 an6 cd6 ct6), sl6⟩)
    (c6 : PySem.W.codeIn K cd6 "covers" = true)
    (k6 : PySem.W.keepIn K (.ref f6) = true)
    (a7 : PySem.W.nsIn K mainGlobals "_law_box" = some (some (.ref f7)))
    (l7 : K.lookup f7 = some ⟨oc7, od7, .func (PySem.W.fnOf "_law_box" "_law_box" (defArgs s_law_box) (defBody s_law_box) (defScope s_law_box) .none kV7 dc7 pm7 an7 cd7 ct7), sl7⟩)
    (c7 : PySem.W.codeIn K cd7 "_law_box" = true)
    (k7 : PySem.W.keepIn K (.ref f7) = true)
    (a8 : PySem.W.nsIn K mainGlobals "_law_alike" = some (some (.ref f8)))
    (l8 : K.lookup f8 = some ⟨oc8, od8, .func (PySem.W.fnOf "_law_alike" "_law_alike" (defArgs s_law_alike) (defBody s_law_alike) (defScope s_law_alike) .none kV8 dc8 pm8 an8 cd8 ct8), sl8⟩)
    (c8 : PySem.W.codeIn K cd8 "_law_alike" = true)
    (k8 : PySem.W.keepIn K (.ref f8) = true)
    (a9 : PySem.W.nsIn K mainGlobals "_law_mix" = some (some (.ref f9)))
    (l9 : K.lookup f9 = some ⟨oc9, od9, .func (PySem.W.fnOf "_law_mix" "_law_mix" (defArgs s_law_mix) (defBody s_law_mix) (defScope s_law_mix) .none kV9 dc9 pm9 an9 cd9 ct9), sl9⟩)
    (c9 : PySem.W.codeIn K cd9 "_law_mix" = true)
    (k9 : PySem.W.keepIn K (.ref f9) = true)
    (a10 : PySem.W.nsIn K mainGlobals "_law_draw" = some (some (.ref f10)))
    (l10 : K.lookup f10 = some ⟨oc10, od10, .func (PySem.W.fnOf "_law_draw" "_law_draw" (defArgs s_law_draw) (defBody s_law_draw) (defScope s_law_draw) .none kV10 dc10 pm10 an10 cd10 ct10), sl10⟩)
    (c10 : PySem.W.codeIn K cd10 "_law_draw" = true)
    (k10 : PySem.W.keepIn K (.ref f10) = true)
    (a11 : PySem.W.nsIn K mainGlobals "_law_line" = some (some (.ref f11)))
    (l11 : K.lookup f11 = some ⟨oc11, od11, .func (PySem.W.fnOf "_law_line" "_law_line" (defArgs s_law_line) (defBody s_law_line) (defScope s_law_line) .none kV11 dc11 pm11 an11 cd11 ct11), sl11⟩)
    (c11 : PySem.W.codeIn K cd11 "_law_line" = true)
    (k11 : PySem.W.keepIn K (.ref f11) = true)
    (a12 : PySem.W.nsIn K mainGlobals "_law_size" = some (some (.ref f12)))
    (l12 : K.lookup f12 = some ⟨oc12, od12, .func (PySem.W.fnOf "_law_size" "_law_size" (defArgs s_law_size) (defBody s_law_size) (defScope s_law_size) .none kV12 dc12 pm12 an12 cd12 ct12), sl12⟩)
    (c12 : PySem.W.codeIn K cd12 "_law_size" = true)
    (k12 : PySem.W.keepIn K (.ref f12) = true)
    (a13 : PySem.W.nsIn K mainGlobals "_law_linked" = some (some (.ref f13)))
    (l13 : K.lookup f13 = some ⟨oc13, od13, .func (PySem.W.fnOf "_law_linked" "_law_linked" (defArgs s_law_linked) (defBody s_law_linked) (defScope s_law_linked) .none kV13 dc13 pm13 an13 cd13 ct13), sl13⟩)
    (c13 : PySem.W.codeIn K cd13 "_law_linked" = true)
    (k13 : PySem.W.keepIn K (.ref f13) = true)
    (a14 : PySem.W.nsIn K mainGlobals "_law_lower" = some (some (.ref f14)))
    (l14 : K.lookup f14 = some ⟨oc14, od14, .func (PySem.W.fnOf "_law_lower" "_law_lower" (defArgs s_law_lower) (defBody s_law_lower) (defScope s_law_lower) .none kV14 dc14 pm14 an14 cd14 ct14), sl14⟩)
    (c14 : PySem.W.codeIn K cd14 "_law_lower" = true)
    (k14 : PySem.W.keepIn K (.ref f14) = true)
    (a15 : PySem.W.nsIn K mainGlobals "_law_pairs" = some (some (.ref f15)))
    (l15 : K.lookup f15 = some ⟨oc15, od15, .func (PySem.W.fnOf "_law_pairs" "_law_pairs" (defArgs s_law_pairs) (defBody s_law_pairs) (defScope s_law_pairs) .none kV15 dc15 pm15 an15 cd15 ct15), sl15⟩)
    (c15 : PySem.W.codeIn K cd15 "_law_pairs" = true)
    (k15 : PySem.W.keepIn K (.ref f15) = true)
    (a16 : PySem.W.nsIn K mainGlobals "_law_due" = some (some (.ref f16)))
    (l16 : K.lookup f16 = some ⟨oc16, od16, .func (PySem.W.fnOf "_law_due" "_law_due" (defArgs s_law_due) (defBody s_law_due) (defScope s_law_due) .none kV16 dc16 pm16 an16 cd16 ct16), sl16⟩)
    (c16 : PySem.W.codeIn K cd16 "_law_due" = true)
    (k16 : PySem.W.keepIn K (.ref f16) = true)
    (a17 : PySem.W.nsIn K mainGlobals "_law_mingled" = some (some (.ref f17)))
    (l17 : K.lookup f17 = some ⟨oc17, od17, .func (PySem.W.fnOf "_law_mingled" "_law_mingled" (defArgs s_law_mingled) (defBody s_law_mingled) (defScope s_law_mingled) .none kV17 dc17 pm17 an17 cd17 ct17), sl17⟩)
    (c17 : PySem.W.codeIn K cd17 "_law_mingled" = true)
    (k17 : PySem.W.keepIn K (.ref f17) = true)
    (a18 : PySem.W.nsIn K mainGlobals "_law_reached" = some (some (.ref f18)))
    (l18 : K.lookup f18 = some ⟨oc18, od18, .func (PySem.W.fnOf "_law_reached" "_law_reached" (defArgs s_law_reached) (defBody s_law_reached) (defScope s_law_reached) .none kV18 dc18 pm18 an18 cd18 ct18), sl18⟩)
    (c18 : PySem.W.codeIn K cd18 "_law_reached" = true)
    (k18 : PySem.W.keepIn K (.ref f18) = true)
    (a19 : PySem.W.nsIn K mainGlobals "_law_walked" = some (some (.ref f19)))
    (l19 : K.lookup f19 = some ⟨oc19, od19, .func (PySem.W.fnOf "_law_walked" "_law_walked" (defArgs s_law_walked) (defBody s_law_walked) (defScope s_law_walked) .none kV19 dc19 pm19 an19 cd19 ct19), sl19⟩)
    (c19 : PySem.W.codeIn K cd19 "_law_walked" = true)
    (k19 : PySem.W.keepIn K (.ref f19) = true)
    (a20 : PySem.W.nsIn K mainGlobals "_law_small" = some (some (.ref f20)))
    (l20 : K.lookup f20 = some ⟨oc20, od20, .func (PySem.W.fnOf "_law_small" "_law_small" (defArgs s_law_small) (defBody s_law_small) (defScope s_law_small) .none kV20 dc20 pm20 an20 cd20 ct20), sl20⟩)
    (c20 : PySem.W.codeIn K cd20 "_law_small" = true)
    (k20 : PySem.W.keepIn K (.ref f20) = true)
    (a21 : PySem.W.nsIn K mainGlobals "law" = some (some (.ref f21)))
    (l21 : K.lookup f21 = some ⟨oc21, od21, .func (PySem.W.fnOf "law" "law" (defArgs s_law) (defBody s_law) (defScope s_law) .none kV21 dc21 pm21 an21 cd21 ct21), sl21⟩)
    (c21 : PySem.W.codeIn K cd21 "law" = true)
    (k21 : PySem.W.keepIn K (.ref f21) = true)
    (z_abs : PySem.W.nsIn K mainGlobals "abs" = some none)
    (z_any : PySem.W.nsIn K mainGlobals "any" = some none)
    (z_bool : PySem.W.nsIn K mainGlobals "bool" = some none)
    (z_enumerate : PySem.W.nsIn K mainGlobals "enumerate" = some none)
    (z_int : PySem.W.nsIn K mainGlobals "int" = some none)
    (z_isinstance : PySem.W.nsIn K mainGlobals "isinstance" = some none)
    (z_len : PySem.W.nsIn K mainGlobals "len" = some none)
    (z_list : PySem.W.nsIn K mainGlobals "list" = some none)
    (z_min : PySem.W.nsIn K mainGlobals "min" = some none)
    (z_range : PySem.W.nsIn K mainGlobals "range" = some none)
    (z_sorted : PySem.W.nsIn K mainGlobals "sorted" = some none)
    (z_str : PySem.W.nsIn K mainGlobals "str" = some none)
    (z_tuple : PySem.W.nsIn K mainGlobals "tuple" = some none) :
    ∃ T : Txt K mg, T.a_law = fa := by
  have e := hfa.symm.trans (PySem.W.mg_of X G a21)
  cases e
  exact ⟨⟨f0,
    _,
    fun_mk (st := s_points_in) l0 c0 k0,
    PySem.W.mg_of X G a0,
    f1,
    _,
    fun_mk (st := s_is_link) l1 c1 k1,
    PySem.W.mg_of X G a1,
    f2,
    _,
    fun_mk (st := s_high_masks) l2 c2 k2,
    PySem.W.mg_of X G a2,
    f3,
    _,
    fun_mk (st := s_ways) l3 c3 k3,
    PySem.W.mg_of X G a3,
    f4,
    _,
    fun_mk (st := s_order_of) l4 c4 k4,
    PySem.W.mg_of X G a4,
    f5,
    _,
    fun_mk (st := s_low_masks) l5 c5 k5,
    PySem.W.mg_of X G a5,
    f6,
    _,
    fun_mk (st := s_covers) l6 c6 k6,
    PySem.W.mg_of X G a6,
    f7,
    _,
    fun_mk (st := s_law_box) l7 c7 k7,
    PySem.W.mg_of X G a7,
    f8,
    _,
    fun_mk (st := s_law_alike) l8 c8 k8,
    PySem.W.mg_of X G a8,
    f9,
    _,
    fun_mk (st := s_law_mix) l9 c9 k9,
    PySem.W.mg_of X G a9,
    f10,
    _,
    fun_mk (st := s_law_draw) l10 c10 k10,
    PySem.W.mg_of X G a10,
    f11,
    _,
    fun_mk (st := s_law_line) l11 c11 k11,
    PySem.W.mg_of X G a11,
    f12,
    _,
    fun_mk (st := s_law_size) l12 c12 k12,
    PySem.W.mg_of X G a12,
    f13,
    _,
    fun_mk (st := s_law_linked) l13 c13 k13,
    PySem.W.mg_of X G a13,
    f14,
    _,
    fun_mk (st := s_law_lower) l14 c14 k14,
    PySem.W.mg_of X G a14,
    f15,
    _,
    fun_mk (st := s_law_pairs) l15 c15 k15,
    PySem.W.mg_of X G a15,
    f16,
    _,
    fun_mk (st := s_law_due) l16 c16 k16,
    PySem.W.mg_of X G a16,
    f17,
    _,
    fun_mk (st := s_law_mingled) l17 c17 k17,
    PySem.W.mg_of X G a17,
    f18,
    _,
    fun_mk (st := s_law_reached) l18 c18 k18,
    PySem.W.mg_of X G a18,
    f19,
    _,
    fun_mk (st := s_law_walked) l19 c19 k19,
    PySem.W.mg_of X G a19,
    f20,
    _,
    fun_mk (st := s_law_small) l20 c20 k20,
    PySem.W.mg_of X G a20,
    fa,
    _,
    fun_mk (st := s_law) l21 c21 k21,
    PySem.W.mg_of X G a21,
    PySem.W.mg_none_of X G z_abs,
    PySem.W.mg_none_of X G z_any,
    PySem.W.mg_none_of X G z_bool,
    PySem.W.mg_none_of X G z_enumerate,
    PySem.W.mg_none_of X G z_int,
    PySem.W.mg_none_of X G z_isinstance,
    PySem.W.mg_none_of X G z_len,
    PySem.W.mg_none_of X G z_list,
    PySem.W.mg_none_of X G z_min,
    PySem.W.mg_none_of X G z_range,
    PySem.W.mg_none_of X G z_sorted,
    PySem.W.mg_none_of X G z_str,
    PySem.W.mg_none_of X G z_tuple⟩, rfl⟩
/-- what is to be shown of the mirror -/
abbrev Law : Prop := ∀ ns : List Int, ns.length ≤ 63 → ∃ h, f_law [.frz (ns.map MV.int)] [] = ok (.bl true) h
theorem all_end {l : PySem.W.OpenLaw} {w : World} {K : PySem.W.Frag} {mg : Str → Option Value} {fa : Addr} (L : Law) (hT : ∃ T : Txt K mg, T.a_law = fa) :
    ∃ fd : FuncData, (∀ (s : Shared) (v : Value), BindsTo s fd ⟨[v], []⟩ [("script", v)]) ∧ ∀ base : Heap, K.In base → base.Ns mainGlobals mg → FnOk l.prog w K mg base CX0 8 fa fd ["script"] (spLaw K) := by
  obtain ⟨T, e⟩ := hT
  subst e
  obtain ⟨oc, od, kV, doc, pm, an, cdv, ct, osl, e, lk, hcd⟩ := T.F_law.ex
  refine ⟨T.d_law, fun s v => ?_, fun base _ _ => (ok_law T).imp (law_start L)⟩
  rw [e]
  exact .of_eq rfl
end Mi.k03
open PySem PySem.W PyProof.Rows
set_option maxRecDepth 100000 in
set_option maxHeartbeats 0 in
theorem PySem.Challenge.cw_strikecore_k03_covers_lead_back_holds : PySem.Challenge.rw_strikecore_k03_covers_lead_back.Holds := by
  w_on; o_law; k_head; (case hw => w_witness2)
  k_fill
  refine L2.walk_ofK (l := PySem.Challenge.rw_strikecore_k03_covers_lead_back) (n := 63) (k := 8) (x := "script") (CX := L2.CX0) (sp := Mi.spLaw) rfl (by decide) rfl ⟨rfl, by decide, by decide⟩ (fun w h Y => PySem.W.kIn_of Y) ?F (fun K H a ns hl _ hS => ⟨a, ns, rfl, hS, hl, fun _ => rfl⟩) (fun _ _ _ _ h => h)
  case F =>
    intro w mg fa h KX G hmg
    refine Mi.k03.all_end Mi.k03.main ?T
    refine' Mi.k03.txt_mk KX G hmg ?a0 ?l0 ?c0 ?k0 ?a1 ?l1 ?c1 ?k1 ?a2 ?l2 ?c2 ?k2 ?a3 ?l3 ?c3 ?k3 ?a4 ?l4 ?c4 ?k4 ?a5 ?l5 ?c5 ?k5 ?a6 ?l6 ?c6 ?k6 ?a7 ?l7 ?c7 ?k7 ?a8 ?l8 ?c8 ?k8 ?a9 ?l9 ?c9 ?k9 ?a10 ?l10 ?c10 ?k10 ?a11 ?l11 ?c11 ?k11 ?a12 ?l12 ?c12 ?k12 ?a13 ?l13 ?c13 ?k13 ?a14 ?l14 ?c14 ?k14 ?a15 ?l15 ?c15 ?k15 ?a16 ?l16 ?c16 ?k16 ?a17 ?l17 ?c17 ?k17 ?a18 ?l18 ?c18 ?k18 ?a19 ?l19 ?c19 ?k19 ?a20 ?l20 ?c20 ?k20 ?a21 ?l21 ?c21 ?k21 ?z_abs ?z_any ?z_bool ?z_enumerate ?z_int ?z_isinstance ?z_len ?z_list ?z_min ?z_range ?z_sorted ?z_str ?z_tuple
    (case a0 => k_is)
    (case l0 => k_is)
    (case c0 => k_is)
    (case k0 => k_is)
    (case a1 => k_is)
    (case l1 => k_is)
    (case c1 => k_is)
    (case k1 => k_is)
    (case a2 => k_is)
    (case l2 => k_is)
    (case c2 => k_is)
    (case k2 => k_is)
    (case a3 => k_is)
    (case l3 => k_is)
    (case c3 => k_is)
    (case k3 => k_is)
    (case a4 => k_is)
    (case l4 => k_is)
    (case c4 => k_is)
    (case k4 => k_is)
    (case a5 => k_is)
    (case l5 => k_is)
    (case c5 => k_is)
    (case k5 => k_is)
    (case a6 => k_is)
    (case l6 => k_is)
    (case c6 => k_is)
    (case k6 => k_is)
    (case a7 => k_is)
    (case l7 => k_is)
    (case c7 => k_is)
    (case k7 => k_is)
    (case a8 => k_is)
    (case l8 => k_is)
    (case c8 => k_is)
    (case k8 => k_is)
    (case a9 => k_is)
    (case l9 => k_is)
    (case c9 => k_is)
    (case k9 => k_is)
    (case a10 => k_is)
    (case l10 => k_is)
    (case c10 => k_is)
    (case k10 => k_is)
    (case a11 => k_is)
    (case l11 => k_is)
    (case c11 => k_is)
    (case k11 => k_is)
    (case a12 => k_is)
    (case l12 => k_is)
    (case c12 => k_is)
    (case k12 => k_is)
    (case a13 => k_is)
    (case l13 => k_is)
    (case c13 => k_is)
    (case k13 => k_is)
    (case a14 => k_is)
    (case l14 => k_is)
    (case c14 => k_is)
    (case k14 => k_is)
    (case a15 => k_is)
    (case l15 => k_is)
    (case c15 => k_is)
    (case k15 => k_is)
    (case a16 => k_is)
    (case l16 => k_is)
    (case c16 => k_is)
    (case k16 => k_is)
    (case a17 => k_is)
    (case l17 => k_is)
    (case c17 => k_is)
    (case k17 => k_is)
    (case a18 => k_is)
    (case l18 => k_is)
    (case c18 => k_is)
    (case k18 => k_is)
    (case a19 => k_is)
    (case l19 => k_is)
    (case c19 => k_is)
    (case k19 => k_is)
    (case a20 => k_is)
    (case l20 => k_is)
    (case c20 => k_is)
    (case k20 => k_is)
    (case a21 => k_is)
    (case l21 => k_is)
    (case c21 => k_is)
    (case k21 => k_is)
    (case z_abs => k_is)
    (case z_any => k_is)
    (case z_bool => k_is)
    (case z_enumerate => k_is)
    (case z_int => k_is)
    (case z_isinstance => k_is)
    (case z_len => k_is)
    (case z_list => k_is)
    (case z_min => k_is)
    (case z_range => k_is)
    (case z_sorted => k_is)
    (case z_str => k_is)
    (case z_tuple => k_is)
