import PyProof.Rows.All
import Wide.All
import OpenK.AllK
import Wide.FinOn
import HandS.ForMost
import HandS.IsInst
import HandS.Style
import HandS.Wide
import HandS.TupAny
import HandS.Flow
import HandS.Defaults
import HandS.SortRule
import HandS.Conv
import HandS.SortInts
import KE.GoesEnum
import HandS.Iter
import HandS.DictComp
import HandS.WideBits
import HandS.TryOnly
import HandS.Deep
import HandS.More
import HandS.WordsExc
import HandS.ExcField
import KE.KExcIs
import KE.KExcSuper
import HandS.ExcInit
import KE.KExcLine
import HandS.SetFor
import PyProof.AutoSeq1
import KE.KRevSl
import PySem.Challenge.RW_strikecore_k18_strikes_that_can_be_made
set_option Elab.async false
set_option linter.all false
set_option maxRecDepth 100000
set_option maxHeartbeats 2000000
/-! Mi: a mirror of a def, computed: values, heap, worlds. -/
namespace Mi
open PySem L2
/-! ### the mirror's data -/
inductive MV where
  | non | bl (b : Bool) | int (i : Int) | str (x : Str) | tup (xs : List MV) | ktp (xs : List MV) | fls (xs : List MV) | frz (xs : List MV) | ref (l : Nat) | exc (a : Addr) (d : Option Addr) (fns : List Str) (xs : List MV)
inductive MO where
  | dead | lst (xs : List MV) | dK (kvs : List (Key × MV)) | ins (cn : Str) (fs : List (Str × MV))
abbrev MH := List MO
abbrev MS := List (Option MV)
structure MX where
  cls : Str
  flds : List (Str × MV)
inductive Out (α : Type) where
  | ok (a : α) (h : MH) | ex (e : MX) (h : MH)
abbrev Res (α : Type) := Option (Out α)
abbrev MM (α : Type) := MS → MH → Res α
abbrev ME := MM MV
@[simp ↓] def Res.bnd {α β : Type} (r : Res α) (k : α → MH → Res β) : Res β := match r with
  | none => none
  | some (.ok a h) => k a h
  | some (.ex e h) => some (.ex e h)
inductive OutS where
  | nx (s : MS) (h : MH) | ret (x : MV) (h : MH) | brk (s : MS) (h : MH) | cnt (s : MS) (h : MH) | ex (e : MX) (h : MH)
abbrev MT := MS → MH → Option OutS
/-! ### worlds: which address bears which place of the mirror's heap -/
abbrev Phi := Nat → Option Addr
structure Wd where
  f : Phi
  n : Nat
  H : Hp
  hid : Addr → Prop
/-- nothing of the mirror writes there -/
def Stab (W : Wd) (p : Addr) : Prop := (∀ l, W.f l ≠ some p) ∧ ¬ W.hid p
mutual
inductive RV (K : PySem.W.Frag) (W : Wd) : MV → V → Prop
  | non : RV K W .non .non
  | bl (b : Bool) : RV K W (.bl b) (.bl b)
  | int (i : Int) : RV K W (.int i) (.int i)
  | str (x : Str) : RV K W (.str x) (.str x)
  | ref {l : Nat} {a : Addr} (lt : l < W.n) (e : ∀ b, W.f l = some b → b = a) : RV K W (.ref l) (.ref a)
  | tup {p : Addr} {xs : List MV} {vs : List V} (s : Stab W p) (e : W.H p = some (.tup vs)) (r : RVs K W xs vs) : RV K W (.tup xs) (.ref p)
  | tupK {p : Addr} {xs : List MV} {vs : List V} (e : ∀ H, SqT K H p vs) (r : RVs K W xs vs) : RV K W (.ktp xs) (.ref p)
  | fls {p : Addr} {xs : List MV} {vs : List V} (s : Stab W p) (e : W.H p = some (.lst vs)) (r : RVs K W xs vs) : RV K W (.fls xs) (.ref p)
  | frz {p : Addr} {xs : List MV} {vs : List V} (s : Stab W p) (e : Rd W.H p (.lst vs)) (r : RVs K W xs vs) : RV K W (.frz xs) (.ref p)
  | frzK {p : Addr} {xs : List MV} {vs : List V} (e : ∀ H, SqL K H p vs) (r : RVs K W xs vs) : RV K W (.frz xs) (.ref p)
  | exc0 {a : Addr} {fns : List Str} : RV K W (.exc a none fns []) (.ref a)
  | excD {a p : Addr} {fns : List Str} {xs : List MV} {vs : List V} (s : Stab W p) (e : W.H p = some (.xd (fns.zip vs))) (r : RVs K W xs vs) : RV K W (.exc a (some p) fns xs) (.ref a)
inductive RVs (K : PySem.W.Frag) (W : Wd) : List MV → List V → Prop
  | nil : RVs K W [] []
  | cons {x : MV} {v : V} {xs : List MV} {vs : List V} (r : RV K W x v) (t : RVs K W xs vs) : RVs K W (x :: xs) (v :: vs)
end
inductive RKV (K : PySem.W.Frag) (W : Wd) {κ : Type} : List (κ × MV) → List (κ × V) → Prop
  | nil : RKV K W [] []
  | cons {k : κ} {x : MV} {v : V} {xs : List (κ × MV)} {vs : List (κ × V)} (r : RV K W x v) (t : RKV K W xs vs) : RKV K W ((k, x) :: xs) ((k, v) :: vs)
def RO (K : PySem.W.Frag) (W : Wd) : MO → Addr → Prop
  | .dead, _ => False
  | .lst xs, a => ∃ vs, W.H a = some (.lst vs) ∧ RVs K W xs vs
  | .dK kvs, a => ∃ kws, W.H a = some (.dK kws) ∧ RKV K W kvs kws
  | .ins cn fs, a => ∃ C dx kws, PySem.W.nsIn K mainGlobals cn = some (some (.ref C)) ∧ W.H a = some (.ins C dx kws) ∧ RKV K W fs kws
structure Sim (K : PySem.W.Frag) (W : Wd) (h : MH) : Prop where
  n : W.n = h.length
  lt : ∀ l a, W.f l = some a → l < h.length
  inj : ∀ i j a, W.f i = some a → W.f j = some a → i = j
  obj : ∀ l a, W.f l = some a → ∃ o, h[l]? = some o ∧ RO K W o a
  live : ∀ l o, h[l]? = some o → o ≠ .dead → ∃ a, W.f l = some a
  nhid : ∀ l a, W.f l = some a → ¬ W.hid a
  hids : ∀ p, W.hid p → W.H p ≠ none
structure Ext (W W' : Wd) : Prop where
  le : W.n ≤ W'.n
  agree : ∀ l, l < W.n → W'.f l = W.f l ∨ W'.f l = none
  frame : ∀ p o, Stab W p → W.H p = some o → W'.H p = some o ∧ Stab W' p
  hidf : ∀ p o, W.hid p → W.H p = some o → W'.H p = some o ∧ W'.hid p
theorem Ext.refl (W : Wd) : Ext W W := ⟨Nat.le_refl _, fun _ _ => .inl rfl, fun _ _ s e => ⟨e, s⟩, fun _ _ s e => ⟨e, s⟩⟩
theorem Ext.trans {W W1 W2 : Wd} (a : Ext W W1) (b : Ext W1 W2) : Ext W W2 where
  le := Nat.le_trans a.le b.le
  agree := fun l hl => by
    rcases b.agree l (Nat.lt_of_lt_of_le hl a.le) with e | e
    · rw [e]
      exact a.agree l hl
    · exact .inr e
  frame := fun p o s e => by
    obtain ⟨e1, s1⟩ := a.frame p o s e
    exact b.frame p o s1 e1
  hidf := fun p o s e => by
    obtain ⟨e1, s1⟩ := a.hidf p o s e
    exact b.hidf p o s1 e1
theorem Ext.rd {W W' : Wd} (x : Ext W W') {p : Addr} {o : HO} (s : Stab W p) (e : Rd W.H p o) : Rd W'.H p o ∧ Stab W' p := by
  rcases e with e | ⟨u, e⟩
  · exact ⟨.inl (x.frame p _ s e).1, (x.frame p _ s e).2⟩
  · exact ⟨.inr ⟨u, (x.frame p _ s e).1⟩, (x.frame p _ s e).2⟩
section
variable {K : PySem.W.Frag} {W W' : Wd}
mutual
theorem RV.mono (x : Ext W W') : ∀ {m : MV} {v : V}, RV K W m v → RV K W' m v
  | _, _, .non => .non
  | _, _, .bl b => .bl b
  | _, _, .int i => .int i
  | _, _, .str s => .str s
  | _, _, .ref lt e => .ref (Nat.lt_of_lt_of_le lt x.le) fun b hb => by
    rcases x.agree _ lt with q | q
    · exact e b (q ▸ hb)
    · rw [q] at hb
      cases hb
  | _, _, .tup s e r => .tup (x.frame _ _ s e).2 (x.frame _ _ s e).1 (RVs.mono x r)
  | _, _, .tupK e r => .tupK e (RVs.mono x r)
  | _, _, .fls s e r => .fls (x.frame _ _ s e).2 (x.frame _ _ s e).1 (RVs.mono x r)
  | _, _, .frz s e r => .frz (x.rd s e).2 (x.rd s e).1 (RVs.mono x r)
  | _, _, .frzK e r => .frzK e (RVs.mono x r)
  | _, _, .exc0 => .exc0
  | _, _, .excD s e r => .excD (x.frame _ _ s e).2 (x.frame _ _ s e).1 (RVs.mono x r)
theorem RVs.mono (x : Ext W W') : ∀ {ms : List MV} {vs : List V}, RVs K W ms vs → RVs K W' ms vs
  | _, _, .nil => .nil
  | _, _, .cons r t => .cons (RV.mono x r) (RVs.mono x t)
end
theorem RKV.mono {κ : Type} (x : Ext W W') : ∀ {ms : List (κ × MV)} {vs : List (κ × V)}, RKV K W ms vs → RKV K W' ms vs
  | _, _, .nil => .nil
  | _, _, .cons r t => .cons (r.mono x) (RKV.mono x t)
theorem RVs.length : ∀ {xs : List MV} {vs : List V}, RVs K W xs vs → xs.length = vs.length
  | _, _, .nil => rfl
  | _, _, .cons _ t => by rw [List.length_cons, List.length_cons, RVs.length t]
theorem RVs.get : ∀ {xs : List MV} {vs : List V} {i : Nat} {x : MV}, RVs K W xs vs → xs[i]? = some x → ∃ v, vs[i]? = some v ∧ RV K W x v
  | _, _, _, _, .nil, e => by simp at e
  | _, _, 0, _, .cons r _, e => by
    simp at e
    subst e
    exact ⟨_, rfl, r⟩
  | _, _, i + 1, _, .cons _ t, e => by
    obtain ⟨v, a, b⟩ := RVs.get (i := i) t (by simpa using e)
    exact ⟨v, by simpa using a, b⟩
theorem RVs.append : ∀ {xs ys : List MV} {vs ws : List V}, RVs K W xs vs → RVs K W ys ws → RVs K W (xs ++ ys) (vs ++ ws)
  | _, _, _, _, .nil, s => s
  | _, _, _, _, .cons r t, s => .cons r (RVs.append t s)
theorem RVs.one {x : MV} {v : V} (r : RV K W x v) : RVs K W [x] [v] := .cons r .nil
theorem RVs.take : ∀ {xs : List MV} {vs : List V} (n : Nat), RVs K W xs vs → RVs K W (xs.take n) (vs.take n)
  | _, _, 0, _ => .nil
  | _, _, _ + 1, .nil => .nil
  | _, _, n + 1, .cons r t => .cons r (RVs.take n t)
theorem RVs.drop : ∀ {xs : List MV} {vs : List V} (n : Nat), RVs K W xs vs → RVs K W (xs.drop n) (vs.drop n)
  | _, _, 0, r => r
  | _, _, _ + 1, .nil => .nil
  | _, _, n + 1, .cons _ t => RVs.drop n t
theorem RVs.set {x : MV} {v : V} (r : RV K W x v) : ∀ {xs : List MV} {vs : List V} (i : Nat), RVs K W xs vs → RVs K W (xs.set i x) (vs.set i v)
  | _, _, _, .nil => .nil
  | _, _, 0, .cons _ t => .cons r t
  | _, _, i + 1, .cons q t => .cons q (RVs.set r i t)
theorem RVs.eraseIdx : ∀ {xs : List MV} {vs : List V} (i : Nat), RVs K W xs vs → RVs K W (xs.eraseIdx i) (vs.eraseIdx i)
  | _, _, _, .nil => .nil
  | _, _, 0, .cons _ t => t
  | _, _, i + 1, .cons q t => .cons q (RVs.eraseIdx i t)
theorem RVs.reverse : ∀ {xs : List MV} {vs : List V}, RVs K W xs vs → RVs K W xs.reverse vs.reverse
  | _, _, .nil => .nil
  | _, _, .cons r t => by
    rw [List.reverse_cons, List.reverse_cons]
    exact (RVs.reverse t).append (.one r)
theorem RVs.nil_iff {xs : List MV} {vs : List V} (r : RVs K W xs vs) : xs.isEmpty = vs.isEmpty := by
  cases r <;> rfl
theorem RO.mono {o : MO} {a : Addr} (x : Ext W W') (r : RO K W o a) (e : W'.H a = W.H a) : RO K W' o a := by
  cases o with
  | dead => exact r
  | lst xs =>
    obtain ⟨vs, q, t⟩ := r
    exact ⟨vs, e.trans q, t.mono x⟩
  | dK kvs =>
    obtain ⟨vs, q, t⟩ := r
    exact ⟨vs, e.trans q, t.mono x⟩
  | ins cn kvs =>
    obtain ⟨C, dx, vs, hC, q, t⟩ := r
    exact ⟨C, dx, vs, hC, e.trans q, t.mono x⟩
theorem RO.has {o : MO} {a : Addr} (r : RO K W o a) : ∃ u, W.H a = some u := by
  cases o with
  | dead => exact r.elim
  | lst xs =>
    obtain ⟨vs, q, _⟩ := r
    exact ⟨_, q⟩
  | dK kvs =>
    obtain ⟨vs, q, _⟩ := r
    exact ⟨_, q⟩
  | ins cn kvs =>
    obtain ⟨C, dx, vs, hC, q, _⟩ := r
    exact ⟨_, q⟩
theorem Sim.has {h : MH} (S : Sim K W h) {l : Nat} {a : Addr} (e : W.f l = some a) : ∃ u, W.H a = some u := by
  obtain ⟨o, _, r⟩ := S.obj l a e
  exact r.has
theorem Sim.fresh {h : MH} (S : Sim K W h) {p : Addr} (hp : W.H p = none) : Stab W p := ⟨fun l e => (by
  obtain ⟨u, q⟩ := S.has e
  rw [hp] at q
  cases q), fun hh => S.hids p hh hp⟩
/-! ### how a world grows -/
/-- something that the mirror's heap does not bear is laid at p -/
def Wd.put (W : Wd) (p : Addr) (o : HO) : Wd := ⟨W.f, W.n, upd W.H p o, W.hid⟩
theorem Ext.put {h : MH} (S : Sim K W h) {p : Addr} {o : HO} (hp : W.H p = none) : Ext W (W.put p o) := ⟨Nat.le_refl _, fun _ _ => .inl rfl, fun q u s e => ⟨by
  show upd W.H p o q = some u
  rw [upd_ne (ne_of_none e hp)]
  exact e, s⟩, fun q u s e => ⟨by
  show upd W.H p o q = some u
  rw [upd_ne (ne_of_none e hp)]
  exact e, s⟩⟩
theorem Sim.put {h : MH} (S : Sim K W h) {p : Addr} {o : HO} (hp : W.H p = none) : Sim K (W.put p o) h where
  n := S.n
  lt := S.lt
  inj := S.inj
  obj := fun l a e => by
    obtain ⟨u, e1, r⟩ := S.obj l a e
    refine ⟨u, e1, r.mono (Ext.put S hp) ?_⟩
    show upd W.H p o a = W.H a
    obtain ⟨u2, q⟩ := r.has
    rw [upd_ne (ne_of_none q hp)]
  live := S.live
  nhid := S.nhid
  hids := fun q hq e => by
    have e' : upd W.H p o q = none := e
    by_cases hz : q = p
    · rw [hz, upd_same] at e'
      cases e'
    · rw [upd_ne hz] at e'
      exact S.hids q hq e'
/-- a new object of the mirror's heap -/
def Wd.add (W : Wd) (p : Addr) (o : HO) : Wd := ⟨fun l => if l = W.n then some p else W.f l, W.n + 1, upd W.H p o, W.hid⟩
theorem Ext.add {h : MH} (S : Sim K W h) {p : Addr} {o : HO} (hp : W.H p = none) : Ext W (W.add p o) where
  le := Nat.le_succ _
  agree := fun l hl => .inl (if_neg (Nat.ne_of_lt hl))
  frame := fun q u s e => by
    have hq : q ≠ p := ne_of_none e hp
    refine ⟨?_, fun l z => ?_, s.2⟩
    · show upd W.H p o q = some u
      rw [upd_ne hq]
      exact e
    · have z' : (if l = W.n then some p else W.f l) = some q := z
      by_cases hl : l = W.n
      · rw [if_pos hl] at z'
        exact hq (Option.some.inj z').symm
      · rw [if_neg hl] at z'
        exact s.1 l z'
  hidf := fun q u s e => ⟨by
    show upd W.H p o q = some u
    rw [upd_ne (ne_of_none e hp)]
    exact e, s⟩
theorem Sim.add {h : MH} {m : MO} (S : Sim K W h) {p : Addr} {o : HO} (hp : W.H p = none) (hr : RO K (W.add p o) m p) : Sim K (W.add p o) (h ++ [m]) where
  n := by
    show W.n + 1 = _
    rw [List.length_append, S.n]
    rfl
  lt := fun l a e => by
    have e' : (if l = W.n then some p else W.f l) = some a := e
    rw [List.length_append]
    show l < h.length + 1
    by_cases hl : l = W.n
    · rw [hl, S.n]
      exact Nat.lt_succ_self _
    · rw [if_neg hl] at e'
      exact Nat.lt_succ_of_lt (S.lt l a e')
  inj := fun i j a ei ej => by
    have ei' : (if i = W.n then some p else W.f i) = some a := ei
    have ej' : (if j = W.n then some p else W.f j) = some a := ej
    have no : ∀ k, W.f k = some p → False := fun k e => (S.fresh hp).1 k e
    by_cases hi : i = W.n
    · by_cases hj : j = W.n
      · rw [hi, hj]
      · rw [if_pos hi] at ei'
        rw [if_neg hj, ← ei'] at ej'
        exact (no j ej').elim
    · rw [if_neg hi] at ei'
      by_cases hj : j = W.n
      · rw [if_pos hj] at ej'
        rw [← ej'] at ei'
        exact (no i ei').elim
      · rw [if_neg hj] at ej'
        exact S.inj i j a ei' ej'
  obj := fun l a e => by
    have e' : (if l = W.n then some p else W.f l) = some a := e
    by_cases hl : l = W.n
    · rw [if_pos hl] at e'
      cases e'
      exact ⟨m, by rw [hl, S.n]; simp, hr⟩
    · rw [if_neg hl] at e'
      obtain ⟨u, e1, r⟩ := S.obj l a e'
      refine ⟨u, by rw [List.getElem?_append_left (S.lt l a e')]; exact e1, r.mono (Ext.add S hp) ?_⟩
      obtain ⟨u2, q⟩ := r.has
      show upd W.H p o a = W.H a
      rw [upd_ne (ne_of_none q hp)]
  live := fun l u e d => by
    by_cases hl : l = W.n
    · exact ⟨p, if_pos hl⟩
    · have hlt : l < h.length := by
        have := (List.getElem?_eq_some_iff.mp e).1
        rw [List.length_append] at this
        have t : l < h.length + 1 := this
        have := S.n
        omega
      rw [List.getElem?_append_left hlt] at e
      obtain ⟨a, ea⟩ := S.live l u e d
      exact ⟨a, (if_neg hl).trans ea⟩
  nhid := fun l a e => by
    have e' : (if l = W.n then some p else W.f l) = some a := e
    by_cases hl : l = W.n
    · rw [if_pos hl] at e'
      cases e'
      exact (S.fresh hp).2
    · rw [if_neg hl] at e'
      exact S.nhid l a e'
  hids := fun q hq e => by
    have e' : upd W.H p o q = none := e
    by_cases hz : q = p
    · rw [hz, upd_same] at e'
      cases e'
    · rw [upd_ne hz] at e'
      exact S.hids q hq e'
/-- an object of the mirror's heap is written -/
def Wd.wr (W : Wd) (p : Addr) (o : HO) : Wd := ⟨W.f, W.n, upd W.H p o, W.hid⟩
theorem Ext.wr {h : MH} (S : Sim K W h) {l : Nat} {p : Addr} {o : HO} (e : W.f l = some p) : Ext W (W.wr p o) := ⟨Nat.le_refl _, fun _ _ => .inl rfl, fun q u s eq => ⟨by
  show upd W.H p o q = some u
  rw [upd_ne (fun z => s.1 l (by rw [z]; exact e))]
  exact eq, s⟩, fun q u s eq => ⟨by
  show upd W.H p o q = some u
  rw [upd_ne (fun z => S.nhid l p e (by rw [← z]; exact s))]
  exact eq, s⟩⟩
theorem Sim.wr {h : MH} {m : MO} (S : Sim K W h) {l : Nat} {p : Addr} {o : HO} (e : W.f l = some p) (hr : RO K (W.wr p o) m p) : Sim K (W.wr p o) (h.set l m) where
  n := by
    rw [List.length_set]
    exact S.n
  lt := fun j a ej => by
    rw [List.length_set]
    exact S.lt j a ej
  inj := S.inj
  obj := fun j a ej => by
    have hl := S.lt l p e
    by_cases hj : j = l
    · subst hj
      have ej' : W.f j = some a := ej
      rw [e] at ej'
      cases ej'
      exact ⟨m, List.getElem?_set_self hl, hr⟩
    · obtain ⟨u, e1, r⟩ := S.obj j a ej
      refine ⟨u, by rw [List.getElem?_set_ne (Ne.symm hj)]; exact e1, r.mono (Ext.wr S e) ?_⟩
      show upd W.H p o a = W.H a
      rw [upd_ne fun z => hj (S.inj j l p (by rw [← z]; exact ej) e)]
  live := fun j u ej d => by
    by_cases hj : j = l
    · exact ⟨p, by rw [hj]; exact e⟩
    · rw [List.getElem?_set_ne (Ne.symm hj)] at ej
      exact S.live j u ej d
  nhid := S.nhid
  hids := fun q hq e => by
    have e' : upd W.H p o q = none := e
    by_cases hz : q = p
    · rw [hz, upd_same] at e'
      cases e'
    · rw [upd_ne hz] at e'
      exact S.hids q hq e'
/-- an object is given up: from now on it stands still -/
def Wd.kill (W : Wd) (l : Nat) : Wd := ⟨fun j => if j = l then none else W.f j, W.n, W.H, W.hid⟩
theorem Wd.kill_some {l j : Nat} {a : Addr} (e : (W.kill l).f j = some a) : j ≠ l ∧ W.f j = some a := by
  have e' : (if j = l then none else W.f j) = some a := e
  by_cases hj : j = l
  · rw [if_pos hj] at e'
    cases e'
  · rw [if_neg hj] at e'
    exact ⟨hj, e'⟩
theorem Ext.kill (W : Wd) (l : Nat) : Ext W (W.kill l) := ⟨Nat.le_refl _, fun j _ => by
  by_cases hj : j = l
  · exact .inr (if_pos hj)
  · exact .inl (if_neg hj), fun q u s eq => ⟨eq, fun j z => s.1 j (Wd.kill_some z).2, s.2⟩, fun q u s eq => ⟨eq, s⟩⟩
theorem Sim.kill {h : MH} (S : Sim K W h) (l : Nat) : Sim K (W.kill l) (h.set l .dead) where
  n := by
    rw [List.length_set]
    exact S.n
  lt := fun j a ej => by
    rw [List.length_set]
    exact S.lt j a (Wd.kill_some ej).2
  inj := fun i j a ei ej => S.inj i j a (Wd.kill_some ei).2 (Wd.kill_some ej).2
  obj := fun j a ej => by
    obtain ⟨hj, e1⟩ := Wd.kill_some ej
    obtain ⟨u, e2, r⟩ := S.obj j a e1
    exact ⟨u, by rw [List.getElem?_set_ne (Ne.symm hj)]; exact e2, r.mono (Ext.kill W l) rfl⟩
  live := fun j u ej d => by
    by_cases hj : j = l
    · subst hj
      have hlt : j < h.length := by
        have := (List.getElem?_eq_some_iff.mp ej).1
        rw [List.length_set] at this
        exact this
      rw [List.getElem?_set_self hlt] at ej
      exact absurd (Option.some.inj ej).symm d
    · rw [List.getElem?_set_ne (Ne.symm hj)] at ej
      obtain ⟨a, ea⟩ := S.live j u ej d
      exact ⟨a, (if_neg hj).trans ea⟩
  nhid := fun j a ej => S.nhid j a (Wd.kill_some ej).2
  hids := S.hids
/-- a list that is being made: nobody sees it -/
def Wd.hide (W : Wd) (p : Addr) (o : HO) : Wd := ⟨W.f, W.n, upd W.H p o, fun q => q = p ∨ W.hid q⟩
theorem Ext.hide {h : MH} (S : Sim K W h) {p : Addr} {o : HO} (hp : W.H p = none) : Ext W (W.hide p o) := ⟨Nat.le_refl _, fun _ _ => .inl rfl, fun q u s e => ⟨by
  show upd W.H p o q = some u
  rw [upd_ne (ne_of_none e hp)]
  exact e, s.1, fun z => z.elim (fun y => ne_of_none e hp y) s.2⟩, fun q u s e => ⟨by
  show upd W.H p o q = some u
  rw [upd_ne (ne_of_none e hp)]
  exact e, .inr s⟩⟩
theorem Sim.hide {h : MH} (S : Sim K W h) {p : Addr} {o : HO} (hp : W.H p = none) : Sim K (W.hide p o) h where
  n := S.n
  lt := S.lt
  inj := S.inj
  obj := fun l a e => by
    obtain ⟨u, e1, r⟩ := S.obj l a e
    refine ⟨u, e1, r.mono (Ext.hide S hp) ?_⟩
    show upd W.H p o a = W.H a
    obtain ⟨u2, q⟩ := r.has
    rw [upd_ne (ne_of_none q hp)]
  live := S.live
  nhid := fun l a e z => z.elim (fun y => (S.fresh hp).1 l (by rw [← y]; exact e)) (S.nhid l a e)
  hids := fun q hq e => by
    have e' : upd W.H p o q = none := e
    by_cases hz : q = p
    · rw [hz, upd_same] at e'
      cases e'
    · rw [upd_ne hz] at e'
      exact S.hids q (hq.elim (fun y => absurd y hz) id) e'
/-- it is written -/
theorem Ext.wrh {h : MH} {p : Addr} {o : HO} (hp : W.hid p) (S : Sim K W h) {W0 : Wd} (x : Ext W0 W) (h0 : W0.H p = none) : Ext W0 (W.wr p o) := ⟨x.le, x.agree, fun q u s e => ⟨by
  show upd W.H p o q = some u
  rw [upd_ne (ne_of_none e h0)]
  exact (x.frame q u s e).1, (x.frame q u s e).2⟩, fun q u s e => ⟨by
  show upd W.H p o q = some u
  rw [upd_ne (ne_of_none e h0)]
  exact (x.hidf q u s e).1, (x.hidf q u s e).2⟩⟩
theorem rd_wrh {p q : Addr} {o u : HO} (hp : W.hid p) (s : Stab W q) (e : Rd W.H q u) : Rd (W.wr p o).H q u := by
  have ne : q ≠ p := fun z => s.2 (by rw [z]; exact hp)
  rcases e with e | ⟨z, e⟩
  · exact .inl ((upd_ne ne).trans e)
  · exact .inr ⟨z, (upd_ne ne).trans e⟩
mutual
/-- what nobody sees may change -/
theorem RV.wrh {p : Addr} {o : HO} (hp : W.hid p) : ∀ {m : MV} {v : V}, RV K W m v → RV K (W.wr p o) m v
  | _, _, .non => .non
  | _, _, .bl b => .bl b
  | _, _, .int i => .int i
  | _, _, .str s => .str s
  | _, _, .ref lt e => .ref lt e
  | _, _, .tup s e r => .tup s ((upd_ne fun z => s.2 (by rw [z]; exact hp)).trans e) (RVs.wrh hp r)
  | _, _, .tupK e r => .tupK e (RVs.wrh hp r)
  | _, _, .fls s e r => .fls s ((upd_ne fun z => s.2 (by rw [z]; exact hp)).trans e) (RVs.wrh hp r)
  | _, _, .frz s e r => .frz s (rd_wrh hp s e) (RVs.wrh hp r)
  | _, _, .frzK e r => .frzK e (RVs.wrh hp r)
  | _, _, .exc0 => .exc0
  | _, _, .excD s e r => .excD s ((upd_ne fun z => s.2 (by rw [z]; exact hp)).trans e) (RVs.wrh hp r)
theorem RVs.wrh {p : Addr} {o : HO} (hp : W.hid p) : ∀ {ms : List MV} {vs : List V}, RVs K W ms vs → RVs K (W.wr p o) ms vs
  | _, _, .nil => .nil
  | _, _, .cons r t => .cons (RV.wrh hp r) (RVs.wrh hp t)
end
theorem RKV.wrh {κ : Type} {p : Addr} {o : HO} (hp : W.hid p) : ∀ {ms : List (κ × MV)} {vs : List (κ × V)}, RKV K W ms vs → RKV K (W.wr p o) ms vs
  | _, _, .nil => .nil
  | _, _, .cons r t => .cons (r.wrh hp) (RKV.wrh hp t)
theorem Sim.wrh {h : MH} {p : Addr} {o : HO} (hp : W.hid p) (S : Sim K W h) : Sim K (W.wr p o) h where
  n := S.n
  lt := S.lt
  inj := S.inj
  obj := fun l a e => by
    obtain ⟨u, e1, r⟩ := S.obj l a e
    have ne : a ≠ p := fun z => S.nhid l a e (by rw [z]; exact hp)
    have hH : (W.wr p o).H a = W.H a := upd_ne ne
    refine ⟨u, e1, ?_⟩
    cases u with
    | dead => exact r.elim
    | lst xs =>
      obtain ⟨vs, q, t⟩ := r
      exact ⟨vs, hH.trans q, t.wrh hp⟩
    | dK xs =>
      obtain ⟨vs, q, t⟩ := r
      exact ⟨vs, hH.trans q, t.wrh hp⟩
    | ins cn xs =>
      obtain ⟨C, dx, vs, hC, q, t⟩ := r
      exact ⟨C, dx, vs, hC, hH.trans q, t.wrh hp⟩
  live := S.live
  nhid := S.nhid
  hids := fun q hq e => by
    have e' : upd W.H p o q = none := e
    by_cases hz : q = p
    · rw [hz, upd_same] at e'
      cases e'
    · rw [upd_ne hz] at e'
      exact S.hids q hq e'
/-- it is shown: the world without it, into which it is laid -/
def Wd.bare (W : Wd) (p : Addr) : Wd := ⟨W.f, W.n, fun b => if b = p then none else W.H b, fun q => q ≠ p ∧ W.hid q⟩
theorem Wd.bare_upd {p : Addr} {o : HO} (e : W.H p = some o) : upd (W.bare p).H p o = W.H := by
  funext b
  by_cases hb : b = p
  · rw [hb, upd_same, e]
  · rw [upd_ne hb]
    exact if_neg hb
theorem Wd.bare_ne {p q : Addr} (h : q ≠ p) : (W.bare p).H q = W.H q := if_neg h
theorem rd_bare {p q : Addr} {u : HO} (h : q ≠ p) (e : Rd W.H q u) : Rd (W.bare p).H q u := by
  rcases e with e | ⟨z, e⟩
  · exact .inl ((Wd.bare_ne h).trans e)
  · exact .inr ⟨z, (Wd.bare_ne h).trans e⟩
mutual
theorem RV.bare {p : Addr} (hp : W.hid p) : ∀ {m : MV} {v : V}, RV K W m v → RV K (W.bare p) m v
  | _, _, .non => .non
  | _, _, .bl b => .bl b
  | _, _, .int i => .int i
  | _, _, .str s => .str s
  | _, _, .ref lt e => .ref lt e
  | _, _, .tup s e r => .tup ⟨s.1, fun z => s.2 z.2⟩ ((Wd.bare_ne fun z => s.2 (by rw [z]; exact hp)).trans e) (RVs.bare hp r)
  | _, _, .tupK e r => .tupK e (RVs.bare hp r)
  | _, _, .fls s e r => .fls ⟨s.1, fun z => s.2 z.2⟩ ((Wd.bare_ne fun z => s.2 (by rw [z]; exact hp)).trans e) (RVs.bare hp r)
  | _, _, .frz s e r => .frz ⟨s.1, fun z => s.2 z.2⟩ (rd_bare (fun z => s.2 (by rw [z]; exact hp)) e) (RVs.bare hp r)
  | _, _, .frzK e r => .frzK e (RVs.bare hp r)
  | _, _, .exc0 => .exc0
  | _, _, .excD s e r => .excD ⟨s.1, fun z => s.2 z.2⟩ ((Wd.bare_ne fun z => s.2 (by rw [z]; exact hp)).trans e) (RVs.bare hp r)
theorem RVs.bare {p : Addr} (hp : W.hid p) : ∀ {ms : List MV} {vs : List V}, RVs K W ms vs → RVs K (W.bare p) ms vs
  | _, _, .nil => .nil
  | _, _, .cons r t => .cons (RV.bare hp r) (RVs.bare hp t)
end
theorem RKV.bare {κ : Type} {p : Addr} (hp : W.hid p) : ∀ {ms : List (κ × MV)} {vs : List (κ × V)}, RKV K W ms vs → RKV K (W.bare p) ms vs
  | _, _, .nil => .nil
  | _, _, .cons r t => .cons (r.bare hp) (RKV.bare hp t)
theorem Sim.bare {h : MH} {p : Addr} (hp : W.hid p) (S : Sim K W h) : Sim K (W.bare p) h where
  n := S.n
  lt := S.lt
  inj := S.inj
  obj := fun l a e => by
    obtain ⟨u, e1, r⟩ := S.obj l a e
    have ne : a ≠ p := fun z => S.nhid l a e (by rw [z]; exact hp)
    have hH : (W.bare p).H a = W.H a := Wd.bare_ne ne
    refine ⟨u, e1, ?_⟩
    cases u with
    | dead => exact r.elim
    | lst xs =>
      obtain ⟨vs, q, t⟩ := r
      exact ⟨vs, hH.trans q, t.bare hp⟩
    | dK xs =>
      obtain ⟨vs, q, t⟩ := r
      exact ⟨vs, hH.trans q, t.bare hp⟩
    | ins cn xs =>
      obtain ⟨C, dx, vs, hC, q, t⟩ := r
      exact ⟨C, dx, vs, hC, hH.trans q, t.bare hp⟩
  live := S.live
  nhid := fun l a e z => S.nhid l a e z.2
  hids := fun q hq e => by
    rw [Wd.bare_ne hq.1] at e
    exact S.hids q hq.2 e
theorem Ext.bare {p : Addr} {W0 : Wd} (x : Ext W0 W) (h0 : W0.H p = none) : Ext W0 (W.bare p) := ⟨x.le, x.agree, fun q u s e => by
  have hq : q ≠ p := ne_of_none e h0
  obtain ⟨a, b⟩ := x.frame q u s e
  exact ⟨(Wd.bare_ne hq).trans a, b.1, fun z => b.2 z.2⟩, fun q u s e => by
  have hq : q ≠ p := ne_of_none e h0
  obtain ⟨a, b⟩ := x.hidf q u s e
  exact ⟨(Wd.bare_ne hq).trans a, hq, b⟩⟩
/-- where a place of the mirror's heap stands -/
theorem Sim.at {h : MH} (S : Sim K W h) {l : Nat} {o : MO} {v : V} (e : h[l]? = some o) (d : o ≠ .dead) (r : RV K W (.ref l) v) : ∃ a, v = .ref a ∧ W.f l = some a ∧ RO K W o a := by
  obtain ⟨a, ea⟩ := S.live l o e d
  obtain ⟨u, e1, ro⟩ := S.obj l a ea
  rw [e] at e1
  cases e1
  cases r with
  | ref lt q => exact ⟨a, by rw [q a ea], ea, ro⟩
theorem Sim.lstAt {h : MH} (S : Sim K W h) {l : Nat} {xs : List MV} {v : V} (e : h[l]? = some (.lst xs)) (r : RV K W (.ref l) v) : ∃ a vs, v = .ref a ∧ W.f l = some a ∧ W.H a = some (.lst vs) ∧ RVs K W xs vs := by
  obtain ⟨a, e1, e2, vs, e3, r3⟩ := S.at e (by intro z; cases z) r
  exact ⟨a, vs, e1, e2, e3, r3⟩
end
/-! ### slots -/
inductive RS (K : PySem.W.Frag) (W : Wd) : MS → St → Prop
  | nil : RS K W [] []
  | no {o : Option V} {a : MS} {b : St} (t : RS K W a b) : RS K W (none :: a) (o :: b)
  | yes {x : MV} {v : V} {a : MS} {b : St} (r : RV K W x v) (t : RS K W a b) : RS K W (some x :: a) (some v :: b)
section
variable {K : PySem.W.Frag} {W W' : Wd}
theorem RS.mono (x : Ext W W') : ∀ {a : MS} {b : St}, RS K W a b → RS K W' a b
  | _, _, .nil => .nil
  | _, _, .no t => .no (RS.mono x t)
  | _, _, .yes r t => .yes (r.mono x) (RS.mono x t)
theorem RS.get : ∀ {a : MS} {b : St} {i : Nat} {x : MV}, RS K W a b → a[i]? = some (some x) → ∃ v, b[i]? = some (some v) ∧ RV K W x v
  | _, _, _, _, .nil, e => by simp at e
  | _, _, 0, _, .no _, e => by simp at e
  | _, _, 0, _, .yes r _, e => by
    simp at e
    subst e
    exact ⟨_, rfl, r⟩
  | _, _, i + 1, _, .no t, e => by
    obtain ⟨v, p, q⟩ := RS.get (i := i) t (by simpa using e)
    exact ⟨v, by simpa using p, q⟩
  | _, _, i + 1, _, .yes _ t, e => by
    obtain ⟨v, p, q⟩ := RS.get (i := i) t (by simpa using e)
    exact ⟨v, by simpa using p, q⟩
theorem RS.set {x : MV} {v : V} (r : RV K W x v) : ∀ {a : MS} {b : St} (i : Nat), RS K W a b → RS K W (a.set i (some x)) (b.set i (some v))
  | _, _, _, .nil => .nil
  | _, _, 0, .no t => .yes r t
  | _, _, 0, .yes _ t => .yes r t
  | _, _, i + 1, .no t => .no (RS.set r i t)
  | _, _, i + 1, .yes q t => .yes q (RS.set r i t)
theorem RS.clr : ∀ {a : MS} {b : St} (i : Nat) (o : Option V), RS K W a b → RS K W (a.set i none) (b.set i o)
  | _, _, _, _, .nil => .nil
  | _, _, 0, _, .no t => .no t
  | _, _, 0, _, .yes _ t => .no t
  | _, _, i + 1, o, .no t => .no (RS.clr i o t)
  | _, _, i + 1, o, .yes q t => .yes q (RS.clr i o t)
def wipeM (s : MS) : List Nat → MS
  | [] => s
  | v :: vs => (wipeM s vs).set v none
theorem RS.wipe {a : MS} {b : St} (t : RS K W a b) : ∀ vs : List Nat, RS K W (wipeM a vs) (L2.wipe b vs)
  | [] => t
  | v :: vs => (RS.wipe t vs).clr v none
theorem RS.start : ∀ {xs : List MV} {vs : List V}, RVs K W xs vs → ∀ k, RS K W (xs.map some ++ List.replicate k none) (vs.map some ++ List.replicate k none)
  | _, _, .nil, 0 => .nil
  | _, _, .nil, k + 1 => .no (RS.start .nil k)
  | _, _, .cons r t, k => .yes r (RS.start t k)
end
end Mi
set_option maxHeartbeats 2000000
/-! Mi: what a reading owes to a mirror; expressions. -/
namespace Mi
open PySem L2
/-- where exceptions go: the class names' values, the wish -/
structure XC where
  mg : Str → Option Value
  E : XK
inductive RF (K : PySem.W.Frag) (W : Wd) : List (Str × MV) → List (Str × V) → Prop
  | nil : RF K W [] []
  | cons {f : Str} {x : MV} {v : V} {xs : List (Str × MV)} {vs : List (Str × V)} (r : RV K W x v) (t : RF K W xs vs) : RF K W ((f, x) :: xs) ((f, v) :: vs)
def XR (K : PySem.W.Frag) (c : XC) (W : Wd) (e : MX) (C : Value) (d : Option Addr) : Prop :=
  c.mg e.cls = some C ∧ ∃ fs, RF K W e.flds fs ∧ ((d = none ∧ fs = []) ∨ ∃ a, d = some a ∧ Stab W a ∧ W.H a = some (.xd fs))
def PX (K : PySem.W.Frag) (c : XC) (W : Wd) (e : MX) (h : MH) : Prop := ∀ W' C d, Ext W W' → Sim K W' h → XR K c W' e C d → c.E C d W'.H
/-- what is owed behind a run of the mirror that gives r; C: what is wanted of the answer -/
def Pst {α : Type} (K : PySem.W.Frag) (c : XC) (C : Wd → α → Prop) (W : Wd) (r : Res α) : Prop := match r with
  | none => False
  | some (.ok a h) => ∀ W', Ext W W' → Sim K W' h → C W' a
  | some (.ex e h) => PX K c W e h
theorem PX.shift {K : PySem.W.Frag} {c : XC} {W W' : Wd} {e : MX} {h : MH} (x : Ext W W') (p : PX K c W e h) : PX K c W' e h := fun W2 C d x2 s q => p W2 C d (x.trans x2) s q
section
variable {K : PySem.W.Frag} {c : XC} {α β : Type}
theorem Pst.shift {C : Wd → α → Prop} {W W' : Wd} {r : Res α} (x : Ext W W') (p : Pst K c C W r) : Pst K c C W' r := by
  match r, p with
  | some (.ok a h), p => exact fun W2 x2 s => p W2 (x.trans x2) s
  | some (.ex e h), p => exact PX.shift x p
theorem Pst.imp {C C' : Wd → α → Prop} {W : Wd} {r : Res α} (p : Pst K c C W r) (i : ∀ W' a, Ext W W' → C W' a → C' W' a) : Pst K c C' W r := by
  match r, p with
  | some (.ok a h), p => exact fun W2 x2 s => i W2 a x2 (p W2 x2 s)
  | some (.ex e h), p => exact p
/-- a first part, then the rest -/
theorem Pst.bnd {C1 : Wd → α → Prop} {C2 : Wd → β → Prop} {W : Wd} {r : Res α} {k : α → MH → Res β} (p : Pst K c C2 W (r.bnd k))
    (i : ∀ W1 h1 a, Ext W W1 → Sim K W1 h1 → Pst K c C2 W1 (k a h1) → C1 W1 a) : Pst K c C1 W r := by
  match r, p with
  | some (.ok a h), p => exact fun W2 x2 s => i W2 h a x2 s (Pst.shift x2 p)
  | some (.ex e h), p => exact p
end
/-! ### the readings that a mirror gives -/
def CV (K : PySem.W.Frag) (Q : VK) (W : Wd) (x : MV) : Prop := ∀ v, RV K W x v → Q v W.H
def CA (K : PySem.W.Frag) (Q : List V → Hp → Prop) (W : Wd) (xs : List MV) : Prop := ∀ vs, RVs K W xs vs → Q vs W.H
def CB (Q : Bool → Hp → Prop) (W : Wd) (b : Bool) : Prop := Q b W.H
def CO (Q : Option Int → Hp → Prop) (W : Wd) (o : Option Int) : Prop := Q o W.H
/-- a new list: it is not laid yet -/
def CL (K : PySem.W.Frag) (Q : VK) (W : Wd) (xs : List MV) : Prop := ∀ vs p, RVs K W xs vs → W.H p = none → Q (.ref p) (upd W.H p (.lst vs))
def tG {α β : Type} (K : PySem.W.Frag) (c : XC) (C : (β → Hp → Prop) → Wd → α → Prop) (m : MM α) : St → Hp → (β → Hp → Prop) → Prop :=
  fun σ H Q => ∃ W h s, W.H = H ∧ Sim K W h ∧ RS K W s σ ∧ Pst K c (C Q) W (m s h)
abbrev tM (K : PySem.W.Frag) (c : XC) (m : ME) : TE := tG K c (CV K) m
abbrev tMA (K : PySem.W.Frag) (c : XC) (m : MM (List MV)) : TA := tG K c (CA K) m
abbrev tMB (K : PySem.W.Frag) (c : XC) (m : MM Bool) : TT := tG K c CB m
abbrev tMO (K : PySem.W.Frag) (c : XC) (m : MM (Option Int)) : TO := tG K c CO m
abbrev tML (K : PySem.W.Frag) (c : XC) (m : MM (List MV)) : TE := tG K c (CL K) m
/-- an expression's mirror; of a test, of arguments, of an expression that gives a new list -/
abbrev EM (X : Cx) (c : XC) (e : Expr) (m : ME) : Prop := PE X e (tM X.K c m)
abbrev BM (X : Cx) (c : XC) (e : Expr) (m : MM Bool) : Prop := PT X e (tMB X.K c m)
abbrev AM (X : Cx) (c : XC) (es : List Expr) (m : MM (List MV)) : Prop := PA X es (tMA X.K c m)
abbrev LM (X : Cx) (c : XC) (e : Expr) (m : MM (List MV)) : Prop := PE X e (tML X.K c m)
theorem pe_wk {X : Cx} {e : Expr} {t t' : TE} (h : PE X e t) (w : ∀ σ H Q, t' σ H Q → t σ H Q) : PE X e t' := ⟨fun pins s σ H Q I q => h.run pins s σ H Q I (w _ _ _ q)⟩
theorem pt_wk {X : Cx} {e : Expr} {t t' : TT} (h : PT X e t) (w : ∀ σ H Q, t' σ H Q → t σ H Q) : PT X e t' := ⟨fun pins s σ H Q I q => h.run pins s σ H Q I (w _ _ _ q)⟩
theorem pw_wk {X : Cx} {e : Expr} {t t' : TT} (h : PW X e t) (w : ∀ σ H Q, t' σ H Q → t σ H Q) : PW X e t' := ⟨fun wh pins s σ H Q I q => h.run wh pins s σ H Q I (w _ _ _ q)⟩
theorem pa_wk {X : Cx} {e : List Expr} {t t' : TA} (h : PA X e t) (w : ∀ σ H Q, t' σ H Q → t σ H Q) : PA X e t' := ⟨fun po pins s σ H Q I q => h.run po pins s σ H Q I (w _ _ _ q)⟩
theorem po_wk {X : Cx} {e : Option Expr} {t t' : TO} (h : PO X e t) (w : ∀ σ H Q, t' σ H Q → t σ H Q) : PO X e t' := ⟨fun pins s σ H Q I q => h.run pins s σ H Q I (w _ _ _ q)⟩
/-! ### the mirror's words -/
abbrev ok {α : Type} (a : α) (h : MH) : Res α := some (.ok a h)
theorem ok_some {α : Type} (a : α) (h : MH) : ok a h = some (.ok a h) := rfl
@[simp] theorem ok_inj {α : Type} {a b : α} {h h' : MH} : ok a h = ok b h' ↔ a = b ∧ h = h' := ⟨fun e => by
  cases e
  exact ⟨rfl, rfl⟩, fun ⟨e1, e2⟩ => by rw [e1, e2]⟩
@[simp] theorem ok_ne {α : Type} {a : α} {h : MH} : ¬ (ok a h = none) := fun e => by cases e
theorem bnd_ok {α β : Type} {a : α} {h : MH} {k : α → MH → Res β} : (ok a h).bnd k = k a h := rfl
theorem bnd_none {α β : Type} {k : α → MH → Res β} : Res.bnd none k = none := rfl
@[simp ↓] def may {α : Type} (o : Option α) (h : MH) : Res α := match o with
  | some a => ok a h
  | none => none
@[simp ↓] def slot : MS → Nat → Option MV
  | [], _ => none
  | x :: _, 0 => x
  | _ :: r, n + 1 => slot r n
theorem slot_eq : ∀ (s : MS) (i : Nat) {x : MV}, slot s i = some x → s[i]? = some (some x)
  | [], _, _, e => by cases e
  | o :: _, 0, x, e => by
    have e' : o = some x := e
    rw [e']
    rfl
  | _ :: r, n + 1, x, e => by
    have := slot_eq r n (x := x) e
    simpa using this
@[simp ↓] def varM (i : Nat) : ME := fun s h => may (slot s i) h
@[simp ↓] def cM (x : MV) : ME := fun _ h => ok x h
@[simp ↓] def opM (f : MV → MV → MH → Res MV) (a b : ME) : ME := fun s h => (a s h).bnd fun x h1 => (b s h1).bnd fun y h2 => f x y h2
@[simp ↓] def unM (f : MV → MH → Res MV) (a : ME) : ME := fun s h => (a s h).bnd fun x h1 => f x h1
@[simp ↓] def nilA : MM (List MV) := fun _ h => ok [] h
@[simp ↓] def consA (a : ME) (r : MM (List MV)) : MM (List MV) := fun s h => (a s h).bnd fun x h1 => (r s h1).bnd fun xs h2 => ok (x :: xs) h2
def lim : Nat := 1000000
theorem lim_line {n : Nat} (h : n ≤ lim) : n ≤ sizeLine := Nat.le_trans h (by rw [sizeLine_eq]; decide)
@[simp ↓] def tupM (a : MM (List MV)) : ME := fun s h => (a s h).bnd fun xs h1 => if xs.length ≤ lim then ok (.tup xs) h1 else none
@[simp ↓] def lstM (a : MM (List MV)) : MM (List MV) := fun s h => (a s h).bnd fun xs h1 => if xs.length ≤ lim then ok xs h1 else none
@[simp ↓] def flsM (m : MM (List MV)) : ME := fun s h => (m s h).bnd fun xs h1 => ok (.fls xs) h1
@[simp ↓] def refM (m : MM (List MV)) : ME := fun s h => (m s h).bnd fun xs h1 => ok (.ref h1.length) (h1 ++ [.lst xs])
/-- a list's items, a tuple's -/
@[simp ↓] def lstOf (h : MH) : MV → Option (List MV)
  | .fls xs => some xs
  | .frz xs => some xs
  | .ref l => match h[l]? with
    | some (.lst xs) => some xs
    | _ => none
  | _ => none
@[simp ↓] def seqOf (h : MH) : MV → Option (List MV)
  | .tup xs => some xs
  | .ktp xs => some xs
  | x => lstOf h x
section
variable {X : Cx} {c : XC} {e a b : Expr} {es : List Expr} {pos : Pos} {K : PySem.W.Frag} {W : Wd}
theorem em_var {i : Nat} (h : PE X e (tVar i)) : EM X c e (varM i) := pe_wk h fun σ H Q ⟨W, h, s, e, S, rs, p⟩ => by
  subst e
  cases q : slot s i with
  | none =>
    unfold varM may at p
    rw [q] at p
    exact p.elim
  | some x =>
    unfold varM may at p
    rw [q] at p
    obtain ⟨v, hv, r⟩ := rs.get (slot_eq s i q)
    exact ⟨v, hv, p W (Ext.refl W) S v r⟩
theorem em_c {x : MV} {v : V} (h : PE X e (tC v)) (r : ∀ W, RV X.K W x v) : EM X c e (cM x) := pe_wk h fun σ H Q ⟨W, h, s, e, S, rs, p⟩ => by
  subst e
  exact p W (Ext.refl W) S v (r W)
theorem em_int {i j} : EM X c (.Constant (.int i) j pos) (cM (.int i)) := em_c pe_int fun _ => .int i
theorem em_bl {b j} : EM X c (.Constant (.bool b) j pos) (cM (.bl b)) := em_c pe_bl fun _ => .bl b
theorem em_non {j} : EM X c (.Constant .none j pos) (cM .non) := em_c pe_non fun _ => .non
theorem em_str {x j} : EM X c (.Constant (.str x) j pos) (cM (.str x)) := em_c pe_str fun _ => .str x
theorem am_nil : AM X c [] nilA := pa_wk pa_nil fun σ H Q ⟨W, h, s, e, S, rs, p⟩ => by
  subst e
  exact p W (Ext.refl W) S [] .nil
theorem am_cons {ma : ME} {mr : MM (List MV)} (ha : EM X c e ma) (hr : AM X c es mr) (hs : starEach (e :: es) X.env = (false, eval e X.env) :: starEach es X.env := by rfl) : AM X c (e :: es) (consA ma mr) :=
  pa_wk (pa_cons ha hr hs) fun σ H Q ⟨W, h, s, e, S, rs, p⟩ => by
    subst e
    refine ⟨W, h, s, rfl, S, rs, p.bnd fun W1 h1 x x1 S1 p1 v r1 => ?_⟩
    exact ⟨W1, h1, s, rfl, S1, rs.mono x1, p1.bnd fun W2 h2 xs x2 S2 p2 vs r2 => p2 W2 (Ext.refl _) S2 _ (.cons (r1.mono x2) r2)⟩
/-- what a two-place operation's rule owes to the mirror's f -/
def OpM (K : PySem.W.Frag) (c : XC) (r : R2) (f : MV → MV → MH → Res MV) : Prop :=
  ∀ (W : Wd) (h : MH) (x y : MV) (u v : V) (Q : VK), Sim K W h → RV K W x u → RV K W y v → Pst K c (CV K Q) W (f x y h) → r u v W.H Q
def UnM (K : PySem.W.Frag) (c : XC) (r : V → Hp → VK → Prop) (f : MV → MH → Res MV) : Prop :=
  ∀ (W : Wd) (h : MH) (x : MV) (u : V) (Q : VK), Sim K W h → RV K W x u → Pst K c (CV K Q) W (f x h) → r u W.H Q
theorem tOp_of {r : R2} {f : MV → MV → MH → Res MV} {ma mb : ME} (ho : OpM K c r f) {σ : St} {H : Hp} {Q : VK} (q : tM K c (opM f ma mb) σ H Q) : tOp r (tM K c ma) (tM K c mb) σ H Q := by
  obtain ⟨W, h, s, e, S, rs, p⟩ := q
  subst e
  refine ⟨W, h, s, rfl, S, rs, p.bnd fun W1 h1 x x1 S1 p1 u r1 => ?_⟩
  exact ⟨W1, h1, s, rfl, S1, rs.mono x1, p1.bnd fun W2 h2 y x2 S2 p2 v r2 => ho W2 h2 x y u v Q S2 (r1.mono x2) r2 p2⟩
theorem em_op {op : Operator} {r : R2} {f : MV → MV → MH → Res MV} {ma mb : ME} (hr : OpR X (binaryOp op) r) (ho : OpM X.K c r f) (ha : EM X c a ma) (hb : EM X c b mb) : EM X c (.BinOp a op b pos) (opM f ma mb) :=
  pe_wk (pe_op hr ha hb) fun σ H Q q => tOp_of ho q
theorem em_cmp {op : CmpOp} {r : R2} {f : MV → MV → MH → Res MV} {ma mb : ME} (hr : OpR X (compareOp op) r) (ho : OpM X.K c r f) (ha : EM X c a ma) (hb : EM X c b mb) (hm : behindInMarks op b = false) : EM X c (.Compare a [op] [b] pos) (opM f ma mb) :=
  pe_wk (pe_cmpR hr ha hb hm) fun σ H Q q => tOp_of ho q
theorem em_ix {r : R2} {f : MV → MV → MH → Res MV} {ma mb : ME} (hr : IxR X r) (ho : OpM X.K c r f) (ha : EM X c a ma) (hb : EM X c b mb) (hs : PlainIx b) : EM X c (.Subscript a b pos) (opM f ma mb) :=
  pe_wk (pe_ix hr ha hb hs) fun σ H Q q => tOp_of ho q
theorem em_un {op : UnaryOp} {r : V → Hp → VK → Prop} {f : MV → MH → Res MV} {ma : ME} (hr : UnR X (unaryOp op) r) (ho : UnM X.K c r f) (ha : EM X c a ma) : EM X c (.UnaryOp op a pos) (unM f ma) :=
  pe_wk (pe_un hr ha) fun σ H Q ⟨W, h, s, e, S, rs, p⟩ => by
    subst e
    exact ⟨W, h, s, rfl, S, rs, p.bnd fun W1 h1 x x1 S1 p1 u r1 => ho W1 h1 x u Q S1 r1 p1⟩
/-! displays -/
theorem em_tup {k : Nat} {m : MM (List MV)} (h : AM X c es m) : EM X c (.Tuple es k pos) (tupM m) := pe_wk (pe_tup h) fun σ H Q ⟨W, h, s, e, S, rs, p⟩ => by
  subst e
  refine ⟨W, h, s, rfl, S, rs, p.bnd fun W1 h1 xs x1 S1 p1 vs r1 => ?_⟩
  by_cases hl : xs.length ≤ lim
  · rw [if_pos hl] at p1
    refine ⟨lim_line (by rw [← r1.length]; exact hl), fun q hq => ?_⟩
    exact p1 (W1.put q (.tup vs)) (Ext.put S1 hq) (S1.put hq) (.ref q) (.tup (S1.fresh hq) upd_same (r1.mono (Ext.put S1 hq)))
  · rw [if_neg hl] at p1
    exact p1.elim
theorem lm_lst {m : MM (List MV)} (h : AM X c es m) : LM X c (.List es pos) (lstM m) := pe_wk (pe_lst h) fun σ H Q ⟨W, h, s, e, S, rs, p⟩ => by
  subst e
  refine ⟨W, h, s, rfl, S, rs, p.bnd fun W1 h1 xs x1 S1 p1 vs r1 => ?_⟩
  by_cases hl : xs.length ≤ lim
  · rw [if_pos hl] at p1
    exact ⟨lim_line (by rw [← r1.length]; exact hl), fun q hq => p1 W1 (Ext.refl _) S1 vs q r1 hq⟩
  · rw [if_neg hl] at p1
    exact p1.elim
/-- a new list that stands still from now on; one that is written -/
theorem fls_of {m : MM (List MV)} {σ : St} {H : Hp} {Q : VK} (q : tM K c (flsM m) σ H Q) : tML K c m σ H Q := by
  obtain ⟨W, h, s, e, S, rs, p⟩ := q
  subst e
  refine ⟨W, h, s, rfl, S, rs, p.bnd fun W1 h1 xs x1 S1 p1 vs q r1 hq => ?_⟩
  exact p1 (W1.put q (.lst vs)) (Ext.put S1 hq) (S1.put hq) (.ref q) (.fls (S1.fresh hq) upd_same (r1.mono (Ext.put S1 hq)))
theorem ref_of {m : MM (List MV)} {σ : St} {H : Hp} {Q : VK} (q : tM K c (refM m) σ H Q) : tML K c m σ H Q := by
  obtain ⟨W, h, s, e, S, rs, p⟩ := q
  subst e
  refine ⟨W, h, s, rfl, S, rs, p.bnd fun W1 h1 xs x1 S1 p1 vs q r1 hq => ?_⟩
  refine p1 (W1.add q (.lst vs)) (Ext.add S1 hq) (S1.add hq ⟨vs, upd_same, r1.mono (Ext.add S1 hq)⟩) (.ref q) (.ref ?_ fun b hb => ?_)
  · show h1.length < W1.n + 1
    rw [S1.n]
    exact Nat.lt_succ_self _
  · have hb' : (if h1.length = W1.n then some q else W1.f h1.length) = some b := hb
    rw [if_pos S1.n.symm] at hb'
    exact (Option.some.inj hb').symm
theorem em_fls {m : MM (List MV)} (h : LM X c e m) : EM X c e (flsM m) := pe_wk h fun _ _ _ q => fls_of q
theorem em_ref {m : MM (List MV)} (h : LM X c e m) : EM X c e (refM m) := pe_wk h fun _ _ _ q => ref_of q
/-! a list, a tuple as it is read -/
theorem lst_sq {h : MH} {x : MV} {v : V} {xs : List MV} (S : Sim K W h) (r : RV K W x v) (e : lstOf h x = some xs) : ∃ p vs, v = .ref p ∧ SqL K W.H p vs ∧ RVs K W xs vs := by
  cases r with
  | fls s q t =>
    cases e
    exact ⟨_, _, rfl, .inl (.inl q), t⟩
  | frz s q t =>
    cases e
    exact ⟨_, _, rfl, .inl q, t⟩
  | frzK q t =>
    cases e
    exact ⟨_, _, rfl, q _, t⟩
  | @ref l a0 lt q =>
    have e' : (match h[l]? with | some (.lst xs) => some xs | _ => none) = some xs := e
    cases hl : h[l]? with
    | none =>
      rw [hl] at e'
      cases e'
    | some o =>
      rw [hl] at e'
      cases o with
      | lst ys =>
        cases e'
        obtain ⟨a, vs, e1, e2, e3, r3⟩ := S.lstAt hl (.ref lt q)
        exact ⟨a, vs, e1, .inl (.inl e3), r3⟩
      | _ => cases e'
  | _ => cases e
theorem tup_sq {x : List MV} {v : V} (r : RV K W (.tup x) v) : ∃ p vs, v = .ref p ∧ SqT K W.H p vs ∧ RVs K W x vs := by
  cases r with
  | tup s q t => exact ⟨_, _, rfl, .inl (.inl q), t⟩
theorem ktp_sq {x : List MV} {v : V} (r : RV K W (.ktp x) v) : ∃ p vs, v = .ref p ∧ SqT K W.H p vs ∧ RVs K W x vs := by
  cases r with
  | tupK q t => exact ⟨_, _, rfl, q _, t⟩
theorem seq_sq {h : MH} {x : MV} {v : V} {xs : List MV} (S : Sim K W h) (r : RV K W x v) (e : seqOf h x = some xs) : ∃ p vs, v = .ref p ∧ (SqL K W.H p vs ∨ SqT K W.H p vs) ∧ RVs K W xs vs := by
  cases x with
  | tup ys =>
    cases e
    obtain ⟨p, vs, a, b, d⟩ := tup_sq r
    exact ⟨p, vs, a, .inr b, d⟩
  | ktp ys =>
    cases e
    obtain ⟨p, vs, a, b, d⟩ := ktp_sq r
    exact ⟨p, vs, a, .inr b, d⟩
  | _ =>
    obtain ⟨p, vs, a, b, d⟩ := lst_sq S r e
    exact ⟨p, vs, a, .inl b, d⟩
end
end Mi
set_option maxHeartbeats 2000000
/-! Mi: operations. -/
namespace Mi
open PySem L2
/-! ### operations by values -/
def mulOk (i j : Int) : Prop := (-18446744073709551616 < i ∧ i < 18446744073709551616) ∨ (-18446744073709551616 < j ∧ j < 18446744073709551616)
/-- by choice: the kernel shall not reckon with the great numbers in it -/
noncomputable instance (i j : Int) : Decidable (mulOk i j) := Classical.propDecidable _
@[simp ↓] def addF (x y : MV) (h : MH) : Res MV := match x, y with
  | .int i, .int j => ok (.int (i + j)) h
  | .str i, .str j => if i.length + j.length ≤ lim then ok (.str (i ++ j)) h else none
  | .tup i, .tup j => if i.length + j.length ≤ lim then ok (.tup (i ++ j)) h else none
  | _, _ => none
@[simp ↓] def subF (x y : MV) (h : MH) : Res MV := match x, y with
  | .int i, .int j => ok (.int (i - j)) h
  | _, _ => none
@[simp ↓] noncomputable def mulF (x y : MV) (h : MH) : Res MV := match x, y with
  | .int i, .int j => if mulOk i j then ok (.int (i * j)) h else none
  | _, _ => none
@[simp ↓] def divF (x y : MV) (h : MH) : Res MV := match x, y with
  | .int i, .int j => if 0 < j ∧ j < 1073741824 then ok (.int (i / j)) h else none
  | _, _ => none
@[simp ↓] def modF (x y : MV) (h : MH) : Res MV := match x, y with
  | .int i, .int j => if 0 < j then ok (.int (i % j)) h else none
  | _, _ => none
@[simp ↓] def andF (x y : MV) (h : MH) : Res MV := match x, y with
  | .int i, .int j => ok (.int (Builtin.bitAnd i j)) h
  | _, _ => none
@[simp ↓] def orF (x y : MV) (h : MH) : Res MV := match x, y with
  | .int i, .int j => ok (.int (Builtin.bitOr i j)) h
  | _, _ => none
@[simp ↓] def xorF (x y : MV) (h : MH) : Res MV := match x, y with
  | .int i, .int j => ok (.int (Builtin.bitXor i j)) h
  | _, _ => none
def powOk (i j : Int) : Prop := 0 ≤ j ∧ j ≤ 1000000 ∧ i.natAbs < 18446744073709551616
instance (i j : Int) : Decidable (powOk i j) := by unfold powOk; exact inferInstance
@[simp ↓] def powF (x y : MV) (h : MH) : Res MV := match x, y with
  | .int i, .int j => if powOk i j then ok (.int (i ^ j.toNat)) h else none
  | _, _ => none
@[simp ↓] def shlF (x y : MV) (h : MH) : Res MV := match x, y with
  | .int i, .int j => if powOk i j then ok (.int (i * 2 ^ j.toNat)) h else none
  | _, _ => none
@[simp ↓] def shrF (x y : MV) (h : MH) : Res MV := match x, y with
  | .int i, .int j => if 0 ≤ j then ok (.int (i / 2 ^ j.toNat)) h else none
  | _, _ => none
@[simp ↓] def negF (x : MV) (h : MH) : Res MV := match x with
  | .int i => ok (.int (-i)) h
  | _ => none
@[simp ↓] def invF (x : MV) (h : MH) : Res MV := match x with
  | .int i => ok (.int (Builtin.bitNot i)) h
  | _ => none
section
variable {X : Cx} {c : XC} {K : PySem.W.Frag}
theorem rv_int {W : Wd} {i : Int} {v : V} (r : RV K W (.int i) v) : v = .int i := by
  cases r
  rfl
theorem rv_bl {W : Wd} {i : Bool} {v : V} (r : RV K W (.bl i) v) : v = .bl i := by
  cases r
  rfl
theorem rv_str {W : Wd} {i : Str} {v : V} (r : RV K W (.str i) v) : v = .str i := by
  cases r
  rfl
theorem rv_non {W : Wd} {v : V} (r : RV K W .non v) : v = .non := by
  cases r
  rfl
/-- the answer comes at once -/
theorem Pst.now {α : Type} {C : Wd → α → Prop} {W : Wd} {h : MH} {a : α} (p : Pst K c C W (ok a h)) (S : Sim K W h) : C W a := p W (Ext.refl W) S
theorem opm_I0 {f : MV → MV → MH → Res MV} {g : Int → Int → Int} (hf : ∀ x y h, (∃ i j, x = .int i ∧ y = .int j ∧ f x y h = ok (.int (g i j)) h) ∨ f x y h = none) : OpM K c (rI0 fun i j => .int (g i j)) f :=
  fun W h x y u v Q S r1 r2 p => by
    rcases hf x y h with ⟨i, j, e1, e2, e⟩ | e
    · subst e1 e2
      rw [e] at p
      exact ⟨i, j, rv_int r1, rv_int r2, p.now S _ (.int _)⟩
    · rw [e] at p
      exact p.elim
theorem opm_I {C : Int → Int → Prop} {f : MV → MV → MH → Res MV} {g : Int → Int → Int} (hf : ∀ x y h, (∃ i j, x = .int i ∧ y = .int j ∧ C i j ∧ f x y h = ok (.int (g i j)) h) ∨ f x y h = none) : OpM K c (rI C fun i j => .int (g i j)) f :=
  fun W h x y u v Q S r1 r2 p => by
    rcases hf x y h with ⟨i, j, e1, e2, hc, e⟩ | e
    · subst e1 e2
      rw [e] at p
      exact ⟨i, j, rv_int r1, rv_int r2, hc, p.now S _ (.int _)⟩
    · rw [e] at p
      exact p.elim
theorem opm_sub : OpM K c (rI0 fun i j => .int (i - j)) subF := opm_I0 fun x y h => by
  cases x <;> cases y <;> first | exact .inr rfl | exact .inl ⟨_, _, rfl, rfl, rfl⟩
theorem opm_and : OpM K c (rI0 fun i j => .int (Builtin.bitAnd i j)) andF := opm_I0 fun x y h => by
  cases x <;> cases y <;> first | exact .inr rfl | exact .inl ⟨_, _, rfl, rfl, rfl⟩
theorem opm_or : OpM K c (rI0 fun i j => .int (Builtin.bitOr i j)) orF := opm_I0 fun x y h => by
  cases x <;> cases y <;> first | exact .inr rfl | exact .inl ⟨_, _, rfl, rfl, rfl⟩
theorem opm_xor : OpM K c (rI0 fun i j => .int (Builtin.bitXor i j)) xorF := opm_I0 fun x y h => by
  cases x <;> cases y <;> first | exact .inr rfl | exact .inl ⟨_, _, rfl, rfl, rfl⟩
theorem ite_or {α : Type} {P : Prop} [Decidable P] {a b : Option α} {R : Option α → Prop} (h1 : P → R a) (h2 : ¬ P → R b) : R (if P then a else b) := by
  by_cases h : P
  · rw [if_pos h]
    exact h1 h
  · rw [if_neg h]
    exact h2 h
theorem opm_mul : OpM K c (rI CMul fun i j => .int (i * j)) mulF := opm_I fun x y h => by
  cases x <;> cases y <;> first | exact .inr rfl | skip
  rename_i i j
  by_cases q : mulOk i j
  · exact .inl ⟨i, j, rfl, rfl, q, if_pos q⟩
  · exact .inr (if_neg q)
theorem opm_div : OpM K c (rI CDiv fun i j => .int (i / j)) divF := opm_I fun x y h => by
  cases x <;> cases y <;> first | exact .inr rfl | skip
  rename_i i j
  by_cases q : 0 < j ∧ j < 1073741824
  · exact .inl ⟨i, j, rfl, rfl, q, if_pos q⟩
  · exact .inr (if_neg q)
theorem opm_mod : OpM K c (rI (fun _ j => 0 < j) fun i j => .int (i % j)) modF := opm_I fun x y h => by
  cases x <;> cases y <;> first | exact .inr rfl | skip
  rename_i i j
  by_cases q : 0 < j
  · exact .inl ⟨i, j, rfl, rfl, q, if_pos q⟩
  · exact .inr (if_neg q)
theorem powOk_is {i j : Int} (h : powOk i j) : CPow i j := ⟨h.1, h.2.1, h.2.2⟩
theorem opm_pow : OpM K c (rI CPow fun i j => .int (i ^ j.toNat)) powF := opm_I fun x y h => by
  cases x <;> cases y <;> first | exact .inr rfl | skip
  rename_i i j
  by_cases q : powOk i j
  · exact .inl ⟨i, j, rfl, rfl, powOk_is q, if_pos q⟩
  · exact .inr (if_neg q)
theorem opm_shl : OpM K c (rI CPow fun i j => .int (i * 2 ^ j.toNat)) shlF := opm_I fun x y h => by
  cases x <;> cases y <;> first | exact .inr rfl | skip
  rename_i i j
  by_cases q : powOk i j
  · exact .inl ⟨i, j, rfl, rfl, powOk_is q, if_pos q⟩
  · exact .inr (if_neg q)
theorem opm_shr : OpM K c (rI (fun _ j => 0 ≤ j) fun i j => .int (i / 2 ^ j.toNat)) shrF := opm_I fun x y h => by
  cases x <;> cases y <;> first | exact .inr rfl | skip
  rename_i i j
  by_cases q : 0 ≤ j
  · exact .inl ⟨i, j, rfl, rfl, q, if_pos q⟩
  · exact .inr (if_neg q)
theorem opm_or2 {r r' : R2} {f : MV → MV → MH → Res MV} (h : ∀ W h x y u v (Q : VK), Sim K W h → RV K W x u → RV K W y v → Pst K c (CV K Q) W (f x y h) → r u v W.H Q ∨ r' u v W.H Q) : OpM K c (fun x y H Q => r x y H Q ∨ r' x y H Q) f := h
/-- x + y of ints, texts, tuples -/
def rAddA (K : PySem.W.Frag) : R2 := fun x y H Q => (∃ i j, x = .int i ∧ y = .int j ∧ Q (.int (i + j)) H) ∨ (∃ i j, x = .str i ∧ y = .str j ∧ i.length + j.length ≤ sizeLine ∧ Q (.str (i ++ j)) H) ∨ rCatA K x y H Q
theorem op_addA : OpR X (binaryOp .Add) (rAddA X.K) := OpR.or op_add (OpR.or op_add_str op_catA)
theorem opm_add : OpM K c (rAddA K) addF := fun W h x y u v Q S r1 r2 p => by
  cases x <;> cases y <;> first | exact p.elim | skip
  · rename_i i j
    exact .inl ⟨i, j, rv_int r1, rv_int r2, p.now S _ (.int _)⟩
  · rename_i i j
    by_cases q : i.length + j.length ≤ lim
    · have p' : Pst K c (CV K Q) W (if i.length + j.length ≤ lim then ok (.str (i ++ j)) h else none) := p
      rw [if_pos q] at p'
      exact .inr (.inl ⟨i, j, rv_str r1, rv_str r2, lim_line q, p'.now S _ (.str _)⟩)
    · have p' : Pst K c (CV K Q) W (if i.length + j.length ≤ lim then ok (.str (i ++ j)) h else none) := p
      rw [if_neg q] at p'
      exact p'.elim
  · rename_i i j
    have p' : Pst K c (CV K Q) W (if i.length + j.length ≤ lim then ok (.tup (i ++ j)) h else none) := p
    by_cases q : i.length + j.length ≤ lim
    · rw [if_pos q] at p'
      obtain ⟨a, xs, rfl, ha, t1⟩ := tup_sq r1
      obtain ⟨b, ys, rfl, hb, t2⟩ := tup_sq r2
      refine .inr (.inr ⟨a, b, xs, ys, rfl, rfl, ha, hb, lim_line (by rw [← t1.length, ← t2.length]; exact q), fun e => ?_, fun e e' => ?_, fun e e' d hd => ?_⟩)
      · subst e
        cases t1
        exact p'.now S _ r2
      · subst e'
        cases t2
        rw [List.append_nil] at p'
        exact p'.now S _ r1
      · exact p' (W.put d (.tup (xs ++ ys))) (Ext.put S hd) (S.put hd) (.ref d) (.tup (S.fresh hd) upd_same ((t1.mono (Ext.put S hd)).append (t2.mono (Ext.put S hd))))
    · rw [if_neg q] at p'
      exact p'.elim
theorem unm_neg : UnM K c (rU fun i => .int (-i)) negF := fun W h x u Q S r p => by
  cases x <;> first | exact p.elim | skip
  rename_i i
  exact ⟨i, rv_int r, p.now S _ (.int _)⟩
theorem unm_inv : UnM K c (rU fun i => .int (Builtin.bitNot i)) invF := fun W h x u Q S r p => by
  cases x <;> first | exact p.elim | skip
  rename_i i
  exact ⟨i, rv_int r, p.now S _ (.int _)⟩
end
/-! ### comparisons -/
@[simp ↓] def ltF (x y : MV) (h : MH) : Res MV := match x, y with
  | .int i, .int j => ok (.bl (decide (i < j))) h
  | _, _ => none
@[simp ↓] def leF (x y : MV) (h : MH) : Res MV := match x, y with
  | .int i, .int j => ok (.bl (decide (i ≤ j))) h
  | _, _ => none
@[simp ↓] def gtF (x y : MV) (h : MH) : Res MV := match x, y with
  | .int i, .int j => ok (.bl (decide (j < i))) h
  | _, _ => none
@[simp ↓] def geF (x y : MV) (h : MH) : Res MV := match x, y with
  | .int i, .int j => ok (.bl (decide (j ≤ i))) h
  | _, _ => none
mutual
/-- a value as plain data (no place of the heap in it) -/
def pyOf : MV → Option PyData
  | .non => some .none
  | .bl b => some (.bool b)
  | .int i => some (.int i)
  | .str x => some (.str x)
  | .tup xs => (pysOf xs).map .tuple
  | .ktp xs => (pysOf xs).map .tuple
  | .fls xs => (pysOf xs).map .list
  | .frz xs => (pysOf xs).map .list
  | .ref _ => none
  | .exc .. => none
def pysOf : List MV → Option (List PyData)
  | [] => some []
  | x :: xs => match pyOf x, pysOf xs with
    | some d, some ds => some (d :: ds)
    | _, _ => none
end
/-- == by values -/
def eqB (x y : MV) : Option Bool := match x, y with
  | .int i, .int j => some (decide (i = j))
  | .bl i, .bl j => some (decide (i = j))
  | .str i, .str j => some (decide (i = j))
  | .non, .non => some true
  | _, _ => match pyOf x, pyOf y with
    | some d, some e => if SeqAt.shaped d = true ∧ SeqAt.shaped e = true then some (PyData.eqv d e) else none
    | _, _ => none
@[simp ↓] def eqF (x y : MV) (h : MH) : Res MV := match eqB x y with
  | some b => ok (.bl b) h
  | none => none
@[simp ↓] def neF (x y : MV) (h : MH) : Res MV := match eqB x y with
  | some b => ok (.bl (!b)) h
  | none => none
@[simp ↓] def isnF (x : MV) (h : MH) : Res MV := match x with
  | .non => ok (.bl true) h
  | _ => ok (.bl false) h
@[simp ↓] def notnF (x : MV) (h : MH) : Res MV := match x with
  | .non => ok (.bl false) h
  | _ => ok (.bl true) h
@[simp ↓] def isF (x y : MV) (h : MH) : Res MV := match y with
  | .non => isnF x h
  | _ => none
@[simp ↓] def notF (x y : MV) (h : MH) : Res MV := match y with
  | .non => notnF x h
  | _ => none
section
variable {X : Cx} {c : XC} {K : PySem.W.Frag} {W : Wd}
theorem opm_B0 {f : MV → MV → MH → Res MV} {g : Int → Int → Bool} (hf : ∀ x y h, (∃ i j, x = .int i ∧ y = .int j ∧ f x y h = ok (.bl (g i j)) h) ∨ f x y h = none) : OpM K c (rI0 fun i j => .bl (g i j)) f :=
  fun W h x y u v Q S r1 r2 p => by
    rcases hf x y h with ⟨i, j, e1, e2, e⟩ | e
    · subst e1 e2
      rw [e] at p
      exact ⟨i, j, rv_int r1, rv_int r2, p.now S _ (.bl _)⟩
    · rw [e] at p
      exact p.elim
theorem opm_lt : OpM K c (rI0 fun i j => .bl (decide (i < j))) ltF := opm_B0 fun x y h => by
  cases x <;> cases y <;> first | exact .inr rfl | exact .inl ⟨_, _, rfl, rfl, rfl⟩
theorem opm_le : OpM K c (rI0 fun i j => .bl (decide (i ≤ j))) leF := opm_B0 fun x y h => by
  cases x <;> cases y <;> first | exact .inr rfl | exact .inl ⟨_, _, rfl, rfl, rfl⟩
theorem opm_gt : OpM K c (rI0 fun i j => .bl (decide (j < i))) gtF := opm_B0 fun x y h => by
  cases x <;> cases y <;> first | exact .inr rfl | exact .inl ⟨_, _, rfl, rfl, rfl⟩
theorem opm_ge : OpM K c (rI0 fun i j => .bl (decide (j ≤ i))) geF := opm_B0 fun x y h => by
  cases x <;> cases y <;> first | exact .inr rfl | exact .inl ⟨_, _, rfl, rfl, rfl⟩
mutual
theorem py_dp : ∀ {x : MV} {v : V} {d : PyData}, RV K W x v → pyOf x = some d → Dp K W.H v d
  | .non, _, _, .non, e => by
    cases e
    exact .non
  | .bl b, _, _, .bl _, e => by
    cases e
    exact .bl b
  | .int i, _, _, .int _, e => by
    cases e
    exact .int i
  | .str x, _, _, .str _, e => by
    cases e
    exact .str x
  | .tup xs, _, d, .tup s q t, e => by
    unfold pyOf at e
    cases h : pysOf xs with
    | none =>
      rw [h] at e
      cases e
    | some ds =>
      rw [h] at e
      cases e
      exact .tup (.inl (.inl q)) (pys_dp t h)
  | .ktp xs, _, d, .tupK q t, e => by
    unfold pyOf at e
    cases h : pysOf xs with
    | none =>
      rw [h] at e
      cases e
    | some ds =>
      rw [h] at e
      cases e
      exact .tup (q _) (pys_dp t h)
  | .fls xs, _, d, .fls s q t, e => by
    unfold pyOf at e
    cases h : pysOf xs with
    | none =>
      rw [h] at e
      cases e
    | some ds =>
      rw [h] at e
      cases e
      exact .lst (.inl (.inl q)) (pys_dp t h)
  | .frz xs, _, d, .frz s q t, e => by
    unfold pyOf at e
    cases h : pysOf xs with
    | none =>
      rw [h] at e
      cases e
    | some ds =>
      rw [h] at e
      cases e
      exact .lst (.inl q) (pys_dp t h)
  | .frz xs, _, d, .frzK q t, e => by
    unfold pyOf at e
    cases h : pysOf xs with
    | none =>
      rw [h] at e
      cases e
    | some ds =>
      rw [h] at e
      cases e
      exact .lst (q _) (pys_dp t h)
  | .ref _, _, _, _, e => by cases e
  | .exc .., _, _, _, e => by cases e
theorem pys_dp : ∀ {xs : List MV} {vs : List V} {ds : List PyData}, RVs K W xs vs → pysOf xs = some ds → DpAll K W.H vs ds
  | [], _, _, .nil, e => by
    cases e
    exact .nil
  | x :: xs, _, _, .cons r t, e => by
    unfold pysOf at e
    cases h : pyOf x with
    | none =>
      rw [h] at e
      cases e
    | some d =>
      cases h2 : pysOf xs with
      | none =>
        rw [h, h2] at e
        cases e
      | some ds =>
        rw [h, h2] at e
        cases e
        exact .cons (py_dp r h) (pys_dp t h2)
end
def rEqA (K : PySem.W.Frag) : R2 := fun x y H Q => rEq x y H Q ∨ rEqD K x y H Q
def rNeA (K : PySem.W.Frag) : R2 := fun x y H Q => rNe x y H Q ∨ rNeD K x y H Q
theorem op_eqA (hu : X.A.units + 64 < cLine) : OpR X (compareOp .Eq) (rEqA X.K) := OpR.or op_eq (op_eqD hu)
theorem op_neA (hu : X.A.units + 64 < cLine) : OpR X (compareOp .NotEq) (rNeA X.K) := OpR.or op_ne (op_neD hu)
theorem eqB_cases {x y : MV} {u v : V} {b : Bool} (r1 : RV K W x u) (r2 : RV K W y v) (e : eqB x y = some b) :
    (scal u v = true ∧ decide (u = v) = b) ∨ ∃ d e, Dp K W.H u d ∧ Dp K W.H v e ∧ SeqAt.shaped d = true ∧ SeqAt.shaped e = true ∧ PyData.eqv d e = b := by
  have deep : ∀ x y : MV, RV K W x u → RV K W y v → (match pyOf x, pyOf y with | some d, some e => if SeqAt.shaped d = true ∧ SeqAt.shaped e = true then some (PyData.eqv d e) else none | _, _ => none) = some b →
      ∃ d e, Dp K W.H u d ∧ Dp K W.H v e ∧ SeqAt.shaped d = true ∧ SeqAt.shaped e = true ∧ PyData.eqv d e = b := fun x y r1 r2 e => by
    cases h : pyOf x with
    | none =>
      rw [h] at e
      cases e
    | some d =>
      cases h2 : pyOf y with
      | none =>
        rw [h, h2] at e
        cases e
      | some d2 =>
        rw [h, h2] at e
        have e' : (if SeqAt.shaped d = true ∧ SeqAt.shaped d2 = true then some (PyData.eqv d d2) else none) = some b := e
        by_cases q : SeqAt.shaped d = true ∧ SeqAt.shaped d2 = true
        · rw [if_pos q] at e'
          exact ⟨d, d2, py_dp r1 h, py_dp r2 h2, q.1, q.2, Option.some.inj e'⟩
        · rw [if_neg q] at e'
          cases e'
  cases x <;> cases y <;> first
    | exact .inr (deep _ _ r1 r2 e)
    | (cases r1; cases r2; exact .inl ⟨rfl, by simpa [eqB] using e⟩)
theorem opm_eq : OpM K c (rEqA K) eqF := fun W h x y u v Q S r1 r2 p => by
  unfold eqF at p
  cases e : eqB x y with
  | none =>
    rw [e] at p
    exact p.elim
  | some b =>
    rw [e] at p
    rcases eqB_cases r1 r2 e with ⟨a, d⟩ | ⟨d, e2, a1, a2, a3, a4, a5⟩
    · exact .inl ⟨a, by rw [d]; exact p.now S _ (.bl _)⟩
    · exact .inr ⟨d, e2, a1, a2, a3, a4, by rw [a5]; exact p.now S _ (.bl _)⟩
theorem opm_ne : OpM K c (rNeA K) neF := fun W h x y u v Q S r1 r2 p => by
  unfold neF at p
  cases e : eqB x y with
  | none =>
    rw [e] at p
    exact p.elim
  | some b =>
    rw [e] at p
    rcases eqB_cases r1 r2 e with ⟨a, d⟩ | ⟨d, e2, a1, a2, a3, a4, a5⟩
    · exact .inl ⟨a, by rw [d]; exact p.now S _ (.bl _)⟩
    · exact .inr ⟨d, e2, a1, a2, a3, a4, by rw [a5]; exact p.now S _ (.bl _)⟩
theorem opm_isn : OpM K c (fun x y H Q => y = .non ∧ Q (.bl (decide (x = .non))) H) isF := fun W h x y u v Q S r1 r2 p => by
  cases y <;> first | exact p.elim | skip
  refine ⟨rv_non r2, ?_⟩
  cases x <;> cases r1 <;> exact p.now S _ (.bl _)
theorem opm_notn : OpM K c (fun x y H Q => y = .non ∧ Q (.bl (!decide (x = .non))) H) notF := fun W h x y u v Q S r1 r2 p => by
  cases y <;> first | exact p.elim | skip
  refine ⟨rv_non r2, ?_⟩
  cases x <;> cases r1 <;> exact p.now S _ (.bl _)
end
/-! ### in -/
@[simp ↓] def flatM : MV → Bool
  | .non => true
  | .bl _ => true
  | .int _ => true
  | .str _ => true
  | _ => false
@[simp ↓] def eqM : MV → MV → Bool
  | .non, .non => true
  | .bl a, .bl b => a == b
  | .bl a, .int b => (if a then 1 else 0) == b
  | .int a, .bl b => a == (if b then 1 else 0)
  | .int a, .int b => a == b
  | .str a, .str b => a == b
  | _, _ => false
def inM (x : MV) (xs : List MV) : Bool := xs.any fun y => eqM y x
@[simp ↓] def inF (x y : MV) (h : MH) : Res MV := match seqOf h y with
  | some xs => if flatM x = true ∧ xs.all flatM = true then ok (.bl (inM x xs)) h else none
  | none => none
@[simp ↓] def ninF (x y : MV) (h : MH) : Res MV := match seqOf h y with
  | some xs => if flatM x = true ∧ xs.all flatM = true then ok (.bl (!inM x xs)) h else none
  | none => none
section
variable {X : Cx} {c : XC} {K : PySem.W.Frag} {W : Wd}
theorem flat_V {x : MV} {v : V} (r : RV K W x v) (h : flatM x = true) : flatV v = true := by
  cases r <;> first | rfl | cases h
theorem eq_V {x y : MV} {u v : V} (r1 : RV K W x u) (r2 : RV K W y v) (h1 : flatM x = true) (h2 : flatM y = true) : eqV u v = eqM x y := by
  cases r1 <;> cases r2 <;> first
    | rfl
    | exact absurd h1 Bool.false_ne_true
    | exact absurd h2 Bool.false_ne_true
theorem in_V {x : MV} {u : V} (r : RV K W x u) (hx : flatM x = true) : ∀ {xs : List MV} {vs : List V}, RVs K W xs vs → xs.all flatM = true → vs.all flatV = true ∧ inV u vs = inM x xs
  | _, _, .nil, _ => ⟨rfl, rfl⟩
  | _, _, .cons q t, h => by
    rw [List.all_cons, Bool.and_eq_true] at h
    obtain ⟨a, b⟩ := in_V r hx t h.2
    refine ⟨by rw [List.all_cons, flat_V q h.1, a]; rfl, ?_⟩
    unfold inV inM at b ⊢
    rw [List.any_cons, List.any_cons, eq_V q r h.1 hx, b]
theorem opm_in : OpM K c (rIn K false) inF := fun W h x y u v Q S r1 r2 p => by
  unfold inF at p
  cases e : seqOf h y with
  | none =>
    rw [e] at p
    exact p.elim
  | some xs =>
    rw [e] at p
    have p' : Pst K c (CV K Q) W (if flatM x = true ∧ xs.all flatM = true then ok (.bl (inM x xs)) h else none) := p
    by_cases q : flatM x = true ∧ xs.all flatM = true
    · rw [if_pos q] at p'
      obtain ⟨a, vs, e1, e2, t⟩ := seq_sq S r2 e
      obtain ⟨h1, h2⟩ := in_V r1 q.1 t q.2
      refine ⟨a, vs, e1, e2, flat_V r1 q.1, h1, ?_⟩
      rw [if_neg Bool.false_ne_true, h2]
      exact p'.now S _ (.bl _)
    · rw [if_neg q] at p'
      exact p'.elim
theorem opm_nin : OpM K c (rIn K true) ninF := fun W h x y u v Q S r1 r2 p => by
  unfold ninF at p
  cases e : seqOf h y with
  | none =>
    rw [e] at p
    exact p.elim
  | some xs =>
    rw [e] at p
    have p' : Pst K c (CV K Q) W (if flatM x = true ∧ xs.all flatM = true then ok (.bl (!inM x xs)) h else none) := p
    by_cases q : flatM x = true ∧ xs.all flatM = true
    · rw [if_pos q] at p'
      obtain ⟨a, vs, e1, e2, t⟩ := seq_sq S r2 e
      obtain ⟨h1, h2⟩ := in_V r1 q.1 t q.2
      refine ⟨a, vs, e1, e2, flat_V r1 q.1, h1, ?_⟩
      rw [if_pos rfl, h2]
      exact p'.now S _ (.bl _)
    · rw [if_neg q] at p'
      exact p'.elim
end
/-! ### subscripts -/
@[simp ↓] def ixF (x y : MV) (h : MH) : Res MV := match y with
  | .int i => match x with
    | .str z => if z.length ≤ lim then (match atI z.cps.toList i with
      | some q => ok (.str ⟨#[q]⟩) h
      | none => none) else none
    | _ => match seqOf h x with
      | some xs => match atI xs i with
        | some z => ok z h
        | none => none
      | none => none
  | _ => none
section
variable {X : Cx} {c : XC} {K : PySem.W.Frag} {W : Wd}
theorem RVs.atI {xs : List MV} {vs : List V} {i : Int} {x : MV} (t : RVs K W xs vs) (e : L2.atI xs i = some x) : ∃ v, L2.atI vs i = some v ∧ RV K W x v := by
  unfold L2.atI at e ⊢
  rw [← t.length]
  cases h : ixN xs.length i with
  | none =>
    rw [h] at e
    cases e
  | some j =>
    rw [h] at e
    exact t.get e
theorem opm_ix : OpM K c (rIx K) ixF := fun W h x y u v Q S r1 r2 p => by
  unfold ixF at p
  cases y with
  | int i =>
    have go : ∀ x : MV, RV K W x u → Pst K c (CV K Q) W (match seqOf h x with | some xs => (match L2.atI xs i with | some z => ok z h | none => none) | none => none) → rIx K u v W.H Q := fun x r1 p => by
      cases e : seqOf h x with
      | none =>
        rw [e] at p
        exact p.elim
      | some xs =>
        rw [e] at p
        have p' : Pst K c (CV K Q) W (match L2.atI xs i with | some z => ok z h | none => none) := p
        cases e2 : L2.atI xs i with
        | none =>
          rw [e2] at p'
          exact p'.elim
        | some z =>
          rw [e2] at p'
          obtain ⟨a, vs, q1, q2, t⟩ := seq_sq S r1 e
          obtain ⟨w, q3, q4⟩ := t.atI e2
          rcases q2 with q2 | q2
          · exact .inl ⟨a, vs, i, w, q1, rv_int r2, q2, q3, Pst.now p' S _ q4⟩
          · exact .inr (.inl ⟨a, vs, i, w, q1, rv_int r2, q2, q3, Pst.now p' S _ q4⟩)
    cases x with
    | str z =>
      have p' : Pst K c (CV K Q) W (if z.length ≤ lim then (match L2.atI z.cps.toList i with | some q => ok (.str ⟨#[q]⟩) h | none => none) else none) := p
      by_cases q : z.length ≤ lim
      · rw [if_pos q] at p'
        cases e : L2.atI z.cps.toList i with
        | none =>
          rw [e] at p'
          exact p'.elim
        | some w =>
          rw [e] at p'
          exact .inr (.inr ⟨z, i, w, rv_str r1, rv_int r2, lim_line q, e, Pst.now p' S _ (.str _)⟩)
      · rw [if_neg q] at p'
        exact p'.elim
    | _ => exact go _ r1 p
  | _ => exact p.elim
end
end Mi
set_option maxHeartbeats 2000000
/-! Mi: tests, statements, loops, comprehensions, calls. -/
namespace Mi
open PySem L2
/-! ### tests -/
@[simp ↓] def boolF (x : MV) (h : MH) : Res Bool := match x with
  | .bl b => ok b h
  | _ => none
@[simp ↓] def tstM (m : ME) : MM Bool := fun s h => (m s h).bnd boolF
@[simp ↓] def truF (x : MV) (h : MH) : Res Bool := match x with
  | .non => ok false h
  | .bl b => ok b h
  | .int i => ok (i != 0) h
  | .str z => if z.length ≤ lim then ok ((z.length : Int) != 0) h else none
  | .ref l => match h[l]? with
    | some (.lst xs) => ok (!xs.isEmpty) h
    | some (.dK kvs) => ok (!kvs.isEmpty) h
    | _ => none
  | .tup xs => ok (!xs.isEmpty) h
  | .ktp _ => none
  | .fls xs => ok (!xs.isEmpty) h
  | .frz xs => ok (!xs.isEmpty) h
  | .exc .. => none
@[simp ↓] def truM (m : ME) : MM Bool := fun s h => (m s h).bnd truF
@[simp ↓] def andT (a b : MM Bool) : MM Bool := fun s h => (a s h).bnd fun p h1 => if p = true then b s h1 else ok false h1
@[simp ↓] def orT (a b : MM Bool) : MM Bool := fun s h => (a s h).bnd fun p h1 => if p = true then ok true h1 else b s h1
@[simp ↓] def notT (a : MM Bool) : MM Bool := fun s h => (a s h).bnd fun p h1 => ok (!p) h1
@[simp ↓] def yesT : MM Bool := fun _ h => ok true h
@[simp ↓] def andV (a b : ME) : ME := fun s h => (a s h).bnd fun x h1 => (boolF x h1).bnd fun p h2 => if p = true then b s h2 else ok (.bl false) h2
@[simp ↓] def orV (a b : ME) : ME := fun s h => (a s h).bnd fun x h1 => (boolF x h1).bnd fun p h2 => if p = true then ok (.bl true) h2 else b s h2
@[simp ↓] def notV (a : ME) : ME := fun s h => (a s h).bnd fun x h1 => (truF x h1).bnd fun p h2 => ok (.bl (!p)) h2
@[simp ↓] def ifM (t : MM Bool) (a b : ME) : ME := fun s h => (t s h).bnd fun p h1 => if p = true then a s h1 else b s h1
@[simp ↓] def chainM (f g : MV → MV → MH → Res MV) (a b d : ME) : ME := fun s h => (a s h).bnd fun x h1 => (b s h1).bnd fun y h2 => (f x y h2).bnd fun z h3 => (boolF z h3).bnd fun p h4 =>
  if p = true then (d s h4).bnd fun w h5 => g y w h5 else ok (.bl false) h4
abbrev WM (X : Cx) (c : XC) (e : Expr) (m : MM Bool) : Prop := PW X e (tMB X.K c m)
section
variable {X : Cx} {c : XC} {e a b d : Expr} {rest : List Expr} {pos : Pos} {K : PySem.W.Frag} {W : Wd}
theorem boolF_ok {C : Wd → Bool → Prop} {x : MV} {v : V} {h : MH} (S : Sim K W h) (r : RV K W x v) (p : Pst K c C W (boolF x h)) : ∃ b, x = .bl b ∧ v = .bl b ∧ C W b := by
  cases x <;> first | exact p.elim | skip
  rename_i b
  exact ⟨b, rfl, rv_bl r, Pst.now p S⟩
theorem bm_cmp {op : CmpOp} {r : R2} {f : MV → MV → MH → Res MV} {ma mb : ME} (hr : OpR X (compareOp op) r) (ho : OpM X.K c r f) (ha : EM X c a ma) (hb : EM X c b mb) (hm : behindInMarks op b = false) : BM X c (.Compare a [op] [b] pos) (tstM (opM f ma mb)) :=
  pt_wk (pt_cmpR hr ha hb hm) fun σ H Q ⟨W, h, s, e, S, rs, p⟩ => by
    subst e
    refine tOp_of ho ⟨W, h, s, rfl, S, rs, p.bnd fun W1 h1 x x1 S1 p1 v r1 => ?_⟩
    obtain ⟨k, _, e2, q⟩ := boolF_ok S1 r1 p1
    exact ⟨k, e2, q⟩
theorem tru_V {x : MV} {v : V} {h : MH} {C : Wd → Bool → Prop} (S : Sim K W h) (r : RV K W x v) (p : Pst K c C W (truF x h)) : ∃ k, TruV K v W.H k ∧ C W k := by
  cases x with
  | non =>
    cases r
    exact ⟨false, rfl, Pst.now p S⟩
  | bl b =>
    cases r
    exact ⟨b, rfl, Pst.now p S⟩
  | int i =>
    cases r
    exact ⟨_, rfl, Pst.now p S⟩
  | str z =>
    cases r
    have p' : Pst K c C W (if z.length ≤ lim then ok ((z.length : Int) != 0) h else none) := p
    by_cases q : z.length ≤ lim
    · rw [if_pos q] at p'
      exact ⟨_, ⟨lim_line q, rfl⟩, Pst.now p' S⟩
    · rw [if_neg q] at p'
      exact p'.elim
  | tup xs =>
    obtain ⟨q, vs, rfl, hq, t⟩ := tup_sq r
    exact ⟨!vs.isEmpty, .inr (.inl ⟨vs, hq, rfl⟩), by rw [← t.nil_iff]; exact Pst.now p S⟩
  | ktp xs => exact p.elim
  | exc => exact p.elim
  | fls xs =>
    obtain ⟨q, vs, rfl, hq, t⟩ := lst_sq (h := h) S r rfl
    exact ⟨!vs.isEmpty, .inl ⟨vs, hq, rfl⟩, by rw [← t.nil_iff]; exact Pst.now p S⟩
  | frz xs =>
    obtain ⟨q, vs, rfl, hq, t⟩ := lst_sq (h := h) S r rfl
    exact ⟨!vs.isEmpty, .inl ⟨vs, hq, rfl⟩, by rw [← t.nil_iff]; exact Pst.now p S⟩
  | ref l =>
    have p' : Pst K c C W (match h[l]? with | some (.lst xs) => ok (!xs.isEmpty) h | some (.dK kvs) => ok (!kvs.isEmpty) h | _ => none) := p
    cases hl : h[l]? with
    | none =>
      rw [hl] at p'
      exact p'.elim
    | some o =>
      rw [hl] at p'
      cases o with
      | dead => exact p'.elim
      | lst xs =>
        obtain ⟨q, vs, rfl, e1, hq, t⟩ := S.lstAt hl r
        exact ⟨!vs.isEmpty, .inl ⟨vs, .inl (.inl hq), rfl⟩, by rw [← t.nil_iff]; exact Pst.now p' S⟩
      | dK kvs =>
        obtain ⟨q, rfl, e1, kws, hq, t⟩ := S.at hl (by intro z; cases z) r
        refine ⟨!kws.isEmpty, .inr (.inr ⟨kws, hq, rfl⟩), ?_⟩
        have en : kws.isEmpty = kvs.isEmpty := by cases t <;> rfl
        rw [en]
        exact Pst.now p' S
      | ins cn kvs => exact p'.elim
theorem bm_truth {ma : ME} (ha : EM X c a ma) (he : ∀ whole, isTrue a X.env whole = (do let v ← whole; standAt a.pos; holding [v] (truthy v))) : BM X c a (truM ma) :=
  pt_wk (pt_truth ha he) fun σ H Q ⟨W, h, s, e, S, rs, p⟩ => by
    subst e
    refine ⟨W, h, s, rfl, S, rs, p.bnd fun W1 h1 x x1 S1 p1 v r1 => ?_⟩
    exact tru_V S1 r1 p1
theorem wm_and1 {m : MM Bool} (ha : BM X c a m) : WM X c (.BoolOp .And [a] pos) m := pw_and1 ha
theorem wm_or1 {m : MM Bool} (ha : BM X c a m) : WM X c (.BoolOp .Or [a] pos) m := pw_or1 ha
theorem tAnd_of {m n : MM Bool} {σ : St} {H : Hp} {Q : Bool → Hp → Prop} (q : tMB K c (andT m n) σ H Q) : tAnd (tMB K c m) (tMB K c n) σ H Q := by
  obtain ⟨W, h, s, e, S, rs, p⟩ := q
  subst e
  refine ⟨W, h, s, rfl, S, rs, p.bnd fun W1 h1 k x1 S1 p1 => ?_⟩
  cases k with
  | true => exact ⟨W1, h1, s, rfl, S1, rs.mono x1, p1⟩
  | false => exact p1 W1 (Ext.refl _) S1
theorem tOr_of {m n : MM Bool} {σ : St} {H : Hp} {Q : Bool → Hp → Prop} (q : tMB K c (orT m n) σ H Q) : tOr (tMB K c m) (tMB K c n) σ H Q := by
  obtain ⟨W, h, s, e, S, rs, p⟩ := q
  subst e
  refine ⟨W, h, s, rfl, S, rs, p.bnd fun W1 h1 k x1 S1 p1 => ?_⟩
  cases k with
  | false => exact ⟨W1, h1, s, rfl, S1, rs.mono x1, p1⟩
  | true => exact p1 W1 (Ext.refl _) S1
theorem wm_and {m n : MM Bool} (ha : BM X c a m) (hb : WM X c (.BoolOp .And (b :: rest) pos) n) : WM X c (.BoolOp .And (a :: b :: rest) pos) (andT m n) := pw_wk (pw_and ha hb) fun σ H Q q => tAnd_of q
theorem wm_or {m n : MM Bool} (ha : BM X c a m) (hb : WM X c (.BoolOp .Or (b :: rest) pos) n) : WM X c (.BoolOp .Or (a :: b :: rest) pos) (orT m n) := pw_wk (pw_or ha hb) fun σ H Q q => tOr_of q
theorem bm_w {m : MM Bool} (h : WM X c e m) : BM X c e m := h.pt
theorem bm_not {m : MM Bool} (ha : BM X c a m) : BM X c (.UnaryOp .Not a pos) (notT m) := pt_wk (pt_not ha) fun σ H Q ⟨W, h, s, e, S, rs, p⟩ => by
  subst e
  exact ⟨W, h, s, rfl, S, rs, p.bnd fun W1 h1 k x1 S1 p1 => p1 W1 (Ext.refl _) S1⟩
theorem em_one {op} {m : ME} (h : EM X c a m) : EM X c (.BoolOp op [a] pos) m := pe_one h
theorem em_and {ma mb : ME} (ha : EM X c a ma) (hb : EM X c (.BoolOp .And (b :: rest) pos) mb) : EM X c (.BoolOp .And (a :: b :: rest) pos) (andV ma mb) := pe_wk (pe_and ha hb) fun σ H Q ⟨W, h, s, e, S, rs, p⟩ => by
  subst e
  refine ⟨W, h, s, rfl, S, rs, p.bnd fun W1 h1 x x1 S1 p1 v r1 => ?_⟩
  obtain ⟨k, _, e2, q⟩ := boolF_ok (C := fun W k => if k = true then tM X.K c mb σ W.H Q else Q (.bl false) W.H) S1 r1 (p1.bnd fun W2 h2 k x2 S2 p2 => by
    cases k with
    | true =>
      rw [if_pos rfl] at p2 ⊢
      exact ⟨W2, h2, s, rfl, S2, (rs.mono x1).mono x2, p2⟩
    | false =>
      rw [if_neg Bool.false_ne_true] at p2 ⊢
      exact Pst.now p2 S2 _ (.bl _))
  exact ⟨k, e2, q⟩
theorem em_or {ma mb : ME} (ha : EM X c a ma) (hb : EM X c (.BoolOp .Or (b :: rest) pos) mb) : EM X c (.BoolOp .Or (a :: b :: rest) pos) (orV ma mb) := pe_wk (pe_or ha hb) fun σ H Q ⟨W, h, s, e, S, rs, p⟩ => by
  subst e
  refine ⟨W, h, s, rfl, S, rs, p.bnd fun W1 h1 x x1 S1 p1 v r1 => ?_⟩
  obtain ⟨k, _, e2, q⟩ := boolF_ok (C := fun W k => if k = true then Q (.bl true) W.H else tM X.K c mb σ W.H Q) S1 r1 (p1.bnd fun W2 h2 k x2 S2 p2 => by
    cases k with
    | false =>
      rw [if_neg Bool.false_ne_true] at p2 ⊢
      exact ⟨W2, h2, s, rfl, S2, (rs.mono x1).mono x2, p2⟩
    | true =>
      rw [if_pos rfl] at p2 ⊢
      exact Pst.now p2 S2 _ (.bl _))
  exact ⟨k, e2, q⟩
theorem em_if {t : Expr} {mt : MM Bool} {ma mb : ME} (ht : BM X c t mt) (ha : EM X c a ma) (hb : EM X c b mb) : EM X c (.IfExp t a b pos) (ifM mt ma mb) := pe_wk (pe_ifExp ht ha hb) fun σ H Q ⟨W, h, s, e, S, rs, p⟩ => by
  subst e
  refine ⟨W, h, s, rfl, S, rs, p.bnd fun W1 h1 k x1 S1 p1 => ?_⟩
  cases k with
  | true => exact ⟨W1, h1, s, rfl, S1, rs.mono x1, p1⟩
  | false => exact ⟨W1, h1, s, rfl, S1, rs.mono x1, p1⟩
theorem em_not {m : ME} (ha : EM X c a m) : EM X c (.UnaryOp .Not a pos) (notV m) := pe_wk (pe_notT ha) fun σ H Q ⟨W, h, s, e, S, rs, p⟩ => by
  subst e
  refine ⟨W, h, s, rfl, S, rs, p.bnd fun W1 h1 x x1 S1 p1 v r1 => ?_⟩
  exact tru_V S1 r1 (p1.bnd fun W2 h2 k x2 S2 p2 => Pst.now p2 S2 _ (.bl _))
theorem tChain_of {r r' : R2} {f g : MV → MV → MH → Res MV} {ma mb md : ME} (hf : OpM K c r f) (hg : OpM K c r' g) {σ : St} {H : Hp} {Q : VK} (q : tM K c (chainM f g ma mb md) σ H Q) : tChain r r' (tM K c ma) (tM K c mb) (tM K c md) σ H Q := by
  obtain ⟨W, h, s, e, S, rs, p⟩ := q
  subst e
  refine ⟨W, h, s, rfl, S, rs, p.bnd fun W1 h1 x x1 S1 p1 u r1 => ?_⟩
  refine ⟨W1, h1, s, rfl, S1, rs.mono x1, p1.bnd fun W2 h2 y x2 S2 p2 v r2 => ?_⟩
  refine hf W2 h2 x y u v _ S2 (r1.mono x2) r2 (p2.bnd fun W3 h3 z x3 S3 p3 w r3 => ?_)
  obtain ⟨k, _, e2, q⟩ := boolF_ok (C := fun W k => if k = true then tM K c md σ W.H (fun w' H4 => r' v w' H4 Q) else Q (.bl false) W.H) S3 r3 (p3.bnd fun W4 h4 k x4 S4 p4 => by
    cases k with
    | true =>
      rw [if_pos rfl] at p4 ⊢
      exact ⟨W4, h4, s, rfl, S4, (((rs.mono x1).mono x2).mono x3).mono x4, p4.bnd fun W5 h5 w5 x5 S5 p5 u5 r5 => hg W5 h5 y w5 v u5 Q S5 (((r2.mono x3).mono x4).mono x5) r5 p5⟩
    | false =>
      rw [if_neg Bool.false_ne_true] at p4 ⊢
      exact Pst.now p4 S4 _ (.bl _))
  exact ⟨k, e2, q⟩
theorem em_chain {op op' : CmpOp} {r r' : R2} {f g : MV → MV → MH → Res MV} {ma mb md : ME} (hr : OpR X (compareOp op) r) (hr' : OpR X (compareOp op') r') (hf : OpM X.K c r f) (hg : OpM X.K c r' g) (ha : EM X c a ma) (hb : EM X c b mb) (hd : EM X c d md)
    (hm : lastMarks [op, op'] [b, d] = false := by with_unfolding_all rfl) : EM X c (.Compare a [op, op'] [b, d] pos) (chainM f g ma mb md) := pe_wk (pe_chain hr hr' ha hb hd hm) fun σ H Q q => tChain_of hf hg q
theorem bm_chain {op op' : CmpOp} {r r' : R2} {f g : MV → MV → MH → Res MV} {ma mb md : ME} (hr : OpR X (compareOp op) r) (hr' : OpR X (compareOp op') r') (hf : OpM X.K c r f) (hg : OpM X.K c r' g) (ha : EM X c a ma) (hb : EM X c b mb) (hd : EM X c d md)
    (hm : lastMarks [op, op'] [b, d] = false := by with_unfolding_all rfl) : BM X c (.Compare a [op, op'] [b, d] pos) (tstM (chainM f g ma mb md)) := pt_wk (pt_chain hr hr' ha hb hd hm) fun σ H Q ⟨W, h, s, e, S, rs, p⟩ => by
  subst e
  refine tChain_of hf hg ⟨W, h, s, rfl, S, rs, p.bnd fun W1 h1 x x1 S1 p1 v r1 => ?_⟩
  obtain ⟨k, _, e2, q⟩ := boolF_ok S1 r1 p1
  exact ⟨k, e2, q⟩
end
/-! ### statements -/
@[simp ↓] def bndS {α : Type} (r : Res α) (k : α → MH → Option OutS) : Option OutS := match r with
  | none => none
  | some (.ok a h) => k a h
  | some (.ex e h) => some (.ex e h)
theorem bndS_ok {α : Type} {a : α} {h : MH} {k : α → MH → Option OutS} : bndS (ok a h) k = k a h := rfl
def PstS (K : PySem.W.Frag) (c : XC) (D : Ends) (W : Wd) (r : Option OutS) : Prop := match r with
  | none => False
  | some (.nx s h) => ∀ W' σ, Ext W W' → Sim K W' h → RS K W' s σ → D.nx σ W'.H
  | some (.ret x h) => ∀ W' v, Ext W W' → Sim K W' h → RV K W' x v → D.rt v W'.H
  | some (.brk s h) => ∀ W' σ, Ext W W' → Sim K W' h → RS K W' s σ → D.bk σ W'.H
  | some (.cnt s h) => ∀ W' σ, Ext W W' → Sim K W' h → RS K W' s σ → D.ct σ W'.H
  | some (.ex e h) => PX K c W e h
def tS (K : PySem.W.Frag) (c : XC) (m : MT) : TS := fun D σ H => ∃ W h s, W.H = H ∧ Sim K W h ∧ RS K W s σ ∧ PstS K c D W (m s h)
abbrev SM (X : Cx) (c : XC) (st : Stmt) (m : MT) : Prop := PS X st (tS X.K c m)
abbrev SsM (X : Cx) (c : XC) (sts : List Stmt) (m : MT) : Prop := PSs X sts (tS X.K c m)
theorem ps_wk {X : Cx} {st : Stmt} {t t' : TS} (h : PS X st t) (w : ∀ D σ H, t' D σ H → t D σ H) : PS X st t' := ⟨fun pins s σ H D I q => h.run pins s σ H D I (w _ _ _ q)⟩
theorem pss_wk {X : Cx} {st : List Stmt} {t t' : TS} (h : PSs X st t) (w : ∀ D σ H, t' D σ H → t D σ H) : PSs X st t' := ⟨fun pins s σ H D I q => h.run pins s σ H D I (w _ _ _ q)⟩
section
variable {K : PySem.W.Frag} {c : XC} {α : Type} {D : Ends} {W W' : Wd}
theorem PstS.shift {r : Option OutS} (x : Ext W W') (p : PstS K c D W r) : PstS K c D W' r := by
  match r, p with
  | some (.nx s h), p => exact fun W2 σ x2 S rs => p W2 σ (x.trans x2) S rs
  | some (.ret s h), p => exact fun W2 σ x2 S rs => p W2 σ (x.trans x2) S rs
  | some (.brk s h), p => exact fun W2 σ x2 S rs => p W2 σ (x.trans x2) S rs
  | some (.cnt s h), p => exact fun W2 σ x2 S rs => p W2 σ (x.trans x2) S rs
  | some (.ex e h), p => exact PX.shift x p
theorem PstS.bnd {C : Wd → α → Prop} {r : Res α} {k : α → MH → Option OutS} (p : PstS K c D W (bndS r k))
    (i : ∀ W1 h1 a, Ext W W1 → Sim K W1 h1 → PstS K c D W1 (k a h1) → C W1 a) : Pst K c C W r := by
  match r, p with
  | some (.ok a h), p => exact fun W2 x2 s => i W2 h a x2 s (PstS.shift x2 p)
  | some (.ex e h), p => exact p
end
@[simp ↓] def nilS : MT := fun s h => some (.nx s h)
@[simp ↓] def seqS (a b : MT) : MT := fun s h => match a s h with
  | some (.nx s1 h1) => b s1 h1
  | r => r
@[simp ↓] def setS (i : Nat) (m : ME) : MT := fun s h => bndS (m s h) fun x h1 => some (.nx (s.set i (some x)) h1)
@[simp ↓] def dropS (m : ME) : MT := fun s h => bndS (m s h) fun _ h1 => some (.nx s h1)
@[simp ↓] def retS (m : ME) : MT := fun s h => bndS (m s h) fun x h1 => some (.ret x h1)
@[simp ↓] def retnS : MT := fun _ h => some (.ret .non h)
@[simp ↓] def ifS (t : MM Bool) (a b : MT) : MT := fun s h => bndS (t s h) fun p h1 => if p = true then a s h1 else b s h1
@[simp ↓] def brkS : MT := fun s h => some (.brk s h)
@[simp ↓] def cntS : MT := fun s h => some (.cnt s h)
def neverS : MT := fun _ _ => none
/-- names that take a tuple's items -/
@[simp ↓] def putAll : List Nat → List MV → MS → Option MS
  | [], [], s => some s
  | i :: is, x :: xs, s => putAll is xs (s.set i (some x))
  | _, _, _ => none
@[simp ↓] def unp (is : List Nat) (x : MV) (s : MS) : Option MS := match x with
  | .tup xs => putAll is xs s
  | _ => none
@[simp ↓] def one (i : Nat) (x : MV) (s : MS) : Option MS := some (s.set i (some x))
@[simp ↓] def asgS (g : MV → MS → Option MS) (m : ME) : MT := fun s h => bndS (m s h) fun x h1 => match g x s with
  | some s1 => some (.nx s1 h1)
  | none => none
@[simp ↓] def wrF (l : Nat) (i : Int) (x : MV) (h : MH) : Option MH := match h[l]? with
  | some (.lst xs) => match ixN xs.length i with
    | some j => some (h.set l (.lst (xs.set j x)))
    | none => none
  | _ => none
@[simp ↓] def subS (m o i : ME) : MT := fun s h => bndS (m s h) fun x h1 => bndS (o s h1) fun y h2 => bndS (i s h2) fun z h3 => match y, z with
  | .ref l, .int j => match wrF l j x h3 with
    | some h4 => some (.nx s h4)
    | none => none
  | _, _ => none
@[simp ↓] def augS (i : Nat) (f : Int → Int → Int) (m : ME) : MT := fun s h => match slot s i with
  | some (.int a) => bndS (m s h) fun y h1 => match y with
    | .int b => some (.nx (s.set i (some (.int (f a b)))) h1)
    | _ => none
  | _ => none
section
variable {X : Cx} {c : XC} {e a b o : Expr} {pos : Pos} {K : PySem.W.Frag} {st : Stmt} {rest sts : List Stmt}
theorem ss_nil : SsM X c [] nilS := pss_wk pss_nil fun D σ H ⟨W, h, s, e, S, rs, p⟩ => by
  subst e
  exact p W σ (Ext.refl W) S rs
theorem ss_cons {m n : MT} (h1 : SM X c st m) (h2 : SsM X c rest n) : SsM X c (st :: rest) (seqS m n) := pss_wk (pss_cons h1 h2) fun D σ H ⟨W, h, s, e, S, rs, p⟩ => by
  subst e
  refine ⟨W, h, s, rfl, S, rs, ?_⟩
  unfold seqS at p
  cases q : m s h with
  | none =>
    rw [q] at p
    exact p.elim
  | some r =>
    rw [q] at p
    cases r with
    | nx s1 h1 => exact fun W1 σ1 x1 S1 rs1 => ⟨W1, h1, s1, rfl, S1, rs1, PstS.shift x1 p⟩
    | ret x h1 => exact p
    | brk s1 h1 => exact p
    | cnt s1 h1 => exact p
    | ex x h1 => exact p
theorem ss_one {m : MT} (h : SM X c st m) : SsM X c [st] m := pss_one h
theorem s_pass : SM X c (.Pass pos) nilS := ps_wk ps_pass fun D σ H ⟨W, h, s, e, S, rs, p⟩ => by
  subst e
  exact p W σ (Ext.refl W) S rs
theorem s_break : SM X c (.Break pos) brkS := ps_wk ps_break fun D σ H ⟨W, h, s, e, S, rs, p⟩ => by
  subst e
  exact p W σ (Ext.refl W) S rs
theorem s_continue : SM X c (.Continue pos) cntS := ps_wk ps_continue fun D σ H ⟨W, h, s, e, S, rs, p⟩ => by
  subst e
  exact p W σ (Ext.refl W) S rs
theorem s_never : SM X c st neverS := ps_wk ps_never fun D σ H ⟨W, h, s, e, S, rs, p⟩ => p.elim
theorem s_expr {m : ME} (he : EM X c e m) (hs : swapsWith e none pos.line X.env = pure false := by rfl) : SM X c (.Expr e pos) (dropS m) := ps_wk (ps_expr he hs) fun D σ H ⟨W, h, s, e, S, rs, p⟩ => by
  subst e
  exact ⟨W, h, s, rfl, S, rs, p.bnd fun W1 h1 x x1 S1 p1 v r1 => p1 W1 σ (Ext.refl _) S1 (rs.mono x1)⟩
theorem s_ret {m : ME} (he : EM X c e m) : SM X c (.Return (some e) pos) (retS m) := ps_wk (ps_ret he) fun D σ H ⟨W, h, s, e, S, rs, p⟩ => by
  subst e
  exact ⟨W, h, s, rfl, S, rs, p.bnd fun W1 h1 x x1 S1 p1 v r1 => p1 W1 v (Ext.refl _) S1 r1⟩
theorem s_retn : SM X c (.Return none pos) retnS := ps_wk ps_retN fun D σ H ⟨W, h, s, e, S, rs, p⟩ => by
  subst e
  exact p W _ (Ext.refl W) S .non
theorem s_if {t : Expr} {mt : MM Bool} {ma mb : MT} {aa bb : List Stmt} (ht : BM X c t mt) (ha : SsM X c aa ma) (hb : SsM X c bb mb) : SM X c (.If t aa bb pos) (ifS mt ma mb) := ps_wk (ps_if ht ha hb) fun D σ H ⟨W, h, s, e, S, rs, p⟩ => by
  subst e
  refine ⟨W, h, s, rfl, S, rs, p.bnd fun W1 h1 k x1 S1 p1 => ?_⟩
  cases k with
  | true => exact ⟨W1, h1, s, rfl, S1, rs.mono x1, p1⟩
  | false => exact ⟨W1, h1, s, rfl, S1, rs.mono x1, p1⟩
theorem s_set {i : Nat} {x : Str} {m : ME} {pos' : Pos} (hN : X.N.Nodup) (hi : X.N[i]? = some x) (hx : Loc X.env.scope x) (he : EM X c e m) (hs : swapsWith e (some (.Name x pos')) pos.line X.env = pure false := by rfl) (hf : X.fn x = true ∨ X.env.scope.names.lookup x = some .local := by first | exact .inl rfl | exact .inr rfl | assumption) :
    SM X c (.Assign [.Name x pos'] e pos) (setS i m) := ps_wk (ps_set hN hi hx he hs hf) fun D σ H ⟨W, h, s, e, S, rs, p⟩ => by
  subst e
  exact ⟨W, h, s, rfl, S, rs, p.bnd fun W1 h1 y x1 S1 p1 v r1 => p1 W1 _ (Ext.refl _) S1 ((rs.mono x1).set r1 i)⟩
/-- what a target's rule owes to the mirror's g -/
def TgM (K : PySem.W.Frag) (t : TG) (g : MV → MS → Option MS) : Prop := ∀ (W : Wd) (s s' : MS) (σ : St) (x : MV) (v : V) (Q : St → Hp → Prop), RS K W s σ → RV K W x v → g x s = some s' → (∀ σ', RS K W s' σ' → Q σ' W.H) → t v σ W.H Q
theorem tg_one (i : Nat) : TgM K (gName i) (one i) := fun W s s' σ x v Q rs r e q => by
  cases e
  exact q _ (rs.set r i)
def gNames : List Nat → TGs
  | [] => gNil
  | i :: is => gCons (gName i) (gNames is)
theorem tg_all : ∀ (is : List Nat) (W : Wd) (s s' : MS) (σ : St) (xs : List MV) (vs : List V) (Q : St → Hp → Prop), RS K W s σ → RVs K W xs vs → putAll is xs s = some s' → (∀ σ', RS K W s' σ' → Q σ' W.H) → gNames is vs σ W.H Q
  | [], W, s, s', σ, [], _, Q, rs, .nil, e, q => by
    cases e
    exact ⟨rfl, q σ rs⟩
  | i :: is, W, s, s', σ, x :: xs, _, Q, rs, .cons r t, e, q => ⟨_, _, rfl, tg_all is W _ s' _ xs _ Q (rs.set r i) t e q⟩
  | [], _, _, _, _, _ :: _, _, _, _, _, e, _ => by cases e
  | _ :: _, _, _, _, _, [], _, _, _, _, e, _ => by cases e
theorem putAll_len : ∀ {is : List Nat} {xs : List MV} {s s' : MS}, putAll is xs s = some s' → xs.length = is.length
  | [], [], _, _, _ => rfl
  | i :: is, x :: xs, s, s', e => by
    rw [List.length_cons, List.length_cons, putAll_len (show putAll is xs (s.set i (some x)) = some s' from e)]
  | [], _ :: _, _, _, e => by cases e
  | _ :: _, [], _, _, e => by cases e
theorem tg_tup (is : List Nat) : TgM K (gTup K is.length (gNames is)) (unp is) := fun W s s' σ x v Q rs r e q => by
  cases x <;> first | (cases e; done) | skip
  rename_i xs
  obtain ⟨a, vs, rfl, hq, t⟩ := tup_sq r
  exact ⟨a, vs, rfl, hq, by rw [← t.length]; exact putAll_len e, tg_all is W s s' σ xs vs Q rs t e q⟩
theorem s_asg {tg : Expr} {t : TG} {g : MV → MS → Option MS} {m : ME} (he : EM X c e m) (hg : PG X tg t) (ho : TgM X.K t g) (hs : swapsWithSole [tg] e pos.line X.env = pure false := by rfl) (hw : swappedStores [tg] e X.env = pure none := by rfl)
    (h1 : (assignEach [tg] X.env).map (·.2) = [assign tg X.env] := by rfl) : SM X c (.Assign [tg] e pos) (asgS g m) := ps_wk (ps_asg he hg hs hw h1) fun D σ H ⟨W, h, s, e, S, rs, p⟩ => by
  subst e
  refine ⟨W, h, s, rfl, S, rs, p.bnd fun W1 h1 y x1 S1 p1 v r1 => ?_⟩
  cases q : g y s with
  | none =>
    rw [q] at p1
    exact p1.elim
  | some s1 =>
    rw [q] at p1
    exact ho W1 s s1 σ y v _ (rs.mono x1) r1 q fun σ' rs' => p1 W1 σ' (Ext.refl _) S1 rs'
/-- o[i] = e, a list's item -/
theorem wrF_ok {W : Wd} {h h' : MH} {l : Nat} {j : Int} {x : MV} {u v : V} {Q : Hp → Prop} (S : Sim K W h) (r : RV K W (.ref l) u) (rx : RV K W x v) (e : wrF l j x h = some h') (q : ∀ W', Ext W W' → Sim K W' h' → Q W'.H) : rSetL u (.int j) v W.H Q := by
  unfold wrF at e
  cases hl : h[l]? with
  | none =>
    rw [hl] at e
    cases e
  | some m =>
    rw [hl] at e
    cases m with
    | lst xs =>
      have e' : (match ixN xs.length j with | some j => some (h.set l (MO.lst (xs.set j x))) | none => none) = some h' := e
      cases hi : ixN xs.length j with
      | none =>
        rw [hi] at e'
        cases e'
      | some k =>
        rw [hi] at e'
        cases e'
        obtain ⟨p, vs, rfl, e1, e2, t⟩ := S.lstAt hl r
        refine ⟨p, vs, j, k, rfl, rfl, e2, by rw [← t.length]; exact hi, ?_⟩
        exact q (W.wr p (.lst (vs.set k v))) (Ext.wr S e1) (S.wr e1 ⟨_, upd_same, (t.set rx k).mono (Ext.wr S e1)⟩)
    | dead => cases e
    | dK kvs => cases e
    | ins cn kvs => cases e
theorem s_sub {m mo mi : ME} {i : Expr} {p' : Pos} (he : EM X c e m) (ho : EM X c o mo) (hi : EM X c i mi) (ha : ∀ v, assign (.Subscript o i p') X.env v = (do let o1 ← holding [v] (eval o X.env); let i1 ← holding [v, o1] (eval i X.env); standAt p'; holding [v, o1, i1] (setItem o1 i1 v); release [v, o1, i1] []) := by intro _; rfl) (hs : swapsWithSole [.Subscript o i p'] e pos.line X.env = pure false := by rfl) (hw : swappedStores [.Subscript o i p'] e X.env = pure none := by rfl)
    (h1 : (assignEach [.Subscript o i p'] X.env).map (·.2) = [assign (.Subscript o i p') X.env] := by rfl) : SM X c (.Assign [.Subscript o i p'] e pos) (subS m mo mi) := ps_wk (ps_asg he (pg_sub ho hi set_list ha) hs hw h1) fun D σ H ⟨W, h, s, e, S, rs, p⟩ => by
  subst e
  refine ⟨W, h, s, rfl, S, rs, p.bnd fun W1 h1 y x1 S1 p1 v r1 => ?_⟩
  refine ⟨W1, h1, s, rfl, S1, rs.mono x1, p1.bnd fun W2 h2 y2 x2 S2 p2 v2 r2 => ?_⟩
  refine ⟨W2, h2, s, rfl, S2, (rs.mono x1).mono x2, p2.bnd fun W3 h3 y3 x3 S3 p3 v3 r3 => ?_⟩
  cases y2 <;> first | exact p3.elim | skip
  cases y3 <;> first | exact p3.elim | skip
  rename_i l j
  cases q : wrF l j y h3 with
  | none =>
    simp only [q] at p3
    exact p3.elim
  | some h4 =>
    simp only [q] at p3
    rw [rv_int r3]
    exact wrF_ok S3 (r2.mono x3) ((r1.mono x2).mono x3) q fun W4 x4 S4 => p3 W4 σ x4 S4 (((rs.mono x1).mono x2).mono (x3.trans x4))
theorem s_aug {i : Nat} {x : Str} {m : ME} {op : Operator} {f : Int → Int → Int} {p' : Pos} (hN : X.N.Nodup) (hi : X.N[i]? = some x) (hx : Loc X.env.scope x) (hop : PIp X op (ipI f)) (he : EM X c e m)
    (hf : X.fn x = true ∨ X.env.scope.names.lookup x = some .local := by first | exact .inl rfl | exact .inr rfl | assumption) : SM X c (.AugAssign (.Name x p') op e pos) (augS i f m) := ps_wk (ps_aug hN hi hx he hop hf) fun D σ H ⟨W, h, s, e, S, rs, p⟩ => by
  subst e
  unfold augS at p
  cases q : slot s i with
  | none =>
    rw [q] at p
    exact p.elim
  | some y =>
    rw [q] at p
    cases y <;> first | exact p.elim | skip
    rename_i a
    obtain ⟨v, hv, r⟩ := rs.get (slot_eq s i q)
    refine ⟨v, hv, W, h, s, rfl, S, rs, p.bnd fun W1 h1 y x1 S1 p1 u r1 => ?_⟩
    cases y <;> first | exact p1.elim | skip
    rename_i b
    exact ⟨a, b, rv_int r, rv_int r1, p1 W1 _ (Ext.refl _) S1 ((rs.mono x1).set (.int _) i)⟩
end
end Mi
set_option maxHeartbeats 2000000
/-! Mi: loops, comprehensions, own defs. -/
namespace Mi
open PySem L2
/-! ### what is walked -/
inductive MIter where
  | st (its : List MV) | dyn (l n : Nat)
def JR (K : PySem.W.Frag) (W : Wd) (it : MIter) (J : It) : Prop := match it with
  | .st its => ∀ (i : Nat) (W' : Wd) (h : MH), Ext W W' → Sim K W' h →
      (∀ x, its[i]? = some x → J.go i W'.H ∧ ∀ v H2, J.yld i W'.H v H2 → ∃ W2, W2.H = H2 ∧ Ext W' W2 ∧ Sim K W2 h ∧ RV K W2 x v) ∧ (its.length ≤ i → J.stop i W'.H)
  | .dyn l _ => ∃ a, W.f l = some a ∧ J = Itl K a
def CI (K : PySem.W.Frag) (R : It → Hp → Prop) (W : Wd) (it : MIter) : Prop := ∀ J, JR K W it J → R J W.H
abbrev tMI (K : PySem.W.Frag) (c : XC) (m : MM MIter) : TI := tG K c (CI K) m
abbrev IM (X : Cx) (c : XC) (tg e : Expr) (m : MM MIter) : Prop := PI X tg e (tMI X.K c m)
theorem pi_wk {X : Cx} {tg e : Expr} {t t' : TI} (h : PI X tg e t) (w : ∀ σ H R, t' σ H R → t σ H R) : PI X tg e t' := ⟨fun pins s σ H R I q => h.run pins s σ H R I (w _ _ _ q)⟩
@[simp ↓] def seqI (m : ME) : MM MIter := fun s h => (m s h).bnd fun x h1 => match x with
  | .tup xs => ok (.st xs) h1
  | .ktp xs => ok (.st xs) h1
  | .fls xs => ok (.st xs) h1
  | .frz xs => ok (.st xs) h1
  | .ref l => match h1[l]? with
    | some (.lst xs) => ok (.dyn l (xs.length + 1)) h1
    | _ => none
  | _ => none
def runOf (a : Int) (n : Nat) : List MV := (List.range n).map fun (i : Nat) => MV.int (a + (i : Int))
@[simp ↓] def rng1F (xs : List MV) (h : MH) : Res MIter := match xs with
  | [.int n] => if n ≤ 1000000 ∧ -1000000 ≤ n then ok (.st (runOf 0 n.toNat)) h else none
  | _ => none
@[simp ↓] def rng2F (xs : List MV) (h : MH) : Res MIter := match xs with
  | [.int a, .int b] => if (a ≤ 1000000 ∧ -1000000 ≤ a) ∧ (b ≤ 1000000 ∧ -1000000 ≤ b) then ok (.st (runOf a (b - a).toNat)) h else none
  | _ => none
@[simp ↓] def rng1 (m : MM (List MV)) : MM MIter := fun s h => (m s h).bnd rng1F
@[simp ↓] def rng2 (m : MM (List MV)) : MM MIter := fun s h => (m s h).bnd rng2F
section
variable {X : Cx} {c : XC} {tg e a b : Expr} {K : PySem.W.Frag} {W : Wd}
/-- a list or a tuple, walked -/
def iSeq (K : PySem.W.Frag) (tl : TE) : TI := fun σ H R => tl σ H fun x H1 => (∃ a, x = .ref a ∧ (∃ xs, SqL K H1 a xs) ∧ R (Itl K a) H1) ∨ ∃ a, x = .ref a ∧ (∃ xs, SqT K H1 a xs) ∧ R (Itt K a) H1
theorem pi_seq {tl : TE} (hl : PE X e tl) : PI X tg e (iSeq X.K tl) := by
  refine ⟨fun pins s σ H R I h => thn (hl.run pins s σ H _ I h) fun v s1 ⟨x, H1, I1, r1, q1⟩ => ?_⟩
  have at1 : ∀ b ∈ [s1.heap.objs.size], FpOk X pins H1 b := fun b hb => by
    obtain rfl : b = s1.heap.objs.size := by simpa using hb
    exact I1.fpOk (Nat.le_refl _) (I1.hok.fresh (Nat.le_refl _))
  rcases q1 with ⟨a, e, ⟨xs, hq⟩, q⟩ | ⟨a, e, ⟨xs, hq⟩, q⟩
  · subst e
    cases r1
    obtain ⟨its, rv, p, hz⟩ := I1.list hq
    exact wpAny_pyIter_list p.isList ⟨s1.heap.objs.size, [s1.heap.objs.size], _, _, H1, rfl, I1.kept (t' := s1.toks) (fun b o z => Heap.get?_push_of_some _ z),
      turn_list a _, ⟨_, Heap.get?_push_size _ rfl, rfl, rfl⟩, at1, q⟩
  · subst e
    cases r1
    obtain ⟨its, rv, p, hz⟩ := I1.tuple hq
    exact wpAny_pyIter_tuple (show s1.heap.IsTuple a its.toArray from p) ⟨s1.heap.objs.size, [s1.heap.objs.size], _, _, H1, rfl, I1.kept (t' := s1.toks) (fun b o z => Heap.get?_push_of_some _ z),
      turn_tuple a _, ⟨_, Heap.get?_push_size _ rfl, rfl, rfl⟩, at1, q⟩
theorem rd_lst_inj {H : Hp} {p : Addr} {o : HO} {vs ws : List V} (h : H p = some o) (a : o = .lst vs ∨ ∃ u, o = .frz u (.lst vs)) (b : Rd H p (.lst ws)) : ws = vs := by
  rcases b with b | ⟨z, b⟩ <;> rw [h] at b <;> rcases a with a | ⟨u, a⟩ <;> subst a <;> cases b <;> rfl
theorem sql_get {H : Hp} {p : Addr} {vs : List V} {i : Nat} {v : V} (h : SqL K H p vs) (y : ∀ xs, SqL K H p xs → xs[i]? = some v) : vs[i]? = some v := y vs h
theorem jr_lst {x : MV} {u : V} {xs : List MV} {h : MH} (S : Sim K W h) (r : RV K W x u) (hx : x = .fls xs ∨ x = .frz xs) : ∃ a, u = .ref a ∧ (∃ vs, SqL K W.H a vs) ∧ JR K W (.st xs) (Itl K a) := by
  have go : ∀ (W' : Wd), Ext W W' → ∀ h', Sim K W' h' → ∃ a vs, u = .ref a ∧ SqL K W'.H a vs ∧ RVs K W' xs vs := fun W' x' h' S' => by
    have r' := r.mono x'
    rcases hx with e | e <;> subst e
    · obtain ⟨p, vs, e1, e2, t⟩ := lst_sq (h := h') S' r' rfl
      exact ⟨p, vs, e1, e2, t⟩
    · obtain ⟨p, vs, e1, e2, t⟩ := lst_sq (h := h') S' r' rfl
      exact ⟨p, vs, e1, e2, t⟩
  obtain ⟨a, vs, e1, e2, t⟩ := go W (Ext.refl W) h S
  refine ⟨a, e1, ⟨vs, e2⟩, fun i W' h' x' S' => ?_⟩
  obtain ⟨a', ws, e1', e2', t'⟩ := go W' x' h' S'
  rw [e1] at e1'
  cases e1'
  refine ⟨fun y hy => ?_, fun hi => ⟨ws, e2', by rw [← t'.length]; exact hi⟩⟩
  obtain ⟨v, hv, rv⟩ := t'.get hy
  refine ⟨⟨ws, v, e2', hv⟩, fun v2 H2 ⟨eh, y2⟩ => ⟨W', eh.symm, Ext.refl _, S', ?_⟩⟩
  have := y2 ws e2'
  rw [hv] at this
  cases this
  exact rv
theorem jr_tup {u : V} {x : MV} {xs : List MV} {h : MH} (S : Sim K W h) (r : RV K W x u) (hx : x = .tup xs ∨ x = .ktp xs) : ∃ a, u = .ref a ∧ (∃ vs, SqT K W.H a vs) ∧ JR K W (.st xs) (Itt K a) := by
  have sq : ∀ {W' : Wd}, RV K W' x u → ∃ p vs, u = .ref p ∧ SqT K W'.H p vs ∧ RVs K W' xs vs := fun r => by
    rcases hx with e | e <;> subst e
    · exact tup_sq r
    · exact ktp_sq r
  obtain ⟨a, vs, e1, e2, t⟩ := sq r
  refine ⟨a, e1, ⟨vs, e2⟩, fun i W' h' x' S' => ?_⟩
  obtain ⟨a', ws, e1', e2', t'⟩ := sq (r.mono x')
  rw [e1] at e1'
  cases e1'
  refine ⟨fun y hy => ?_, fun hi => ⟨ws, e2', by rw [← t'.length]; exact hi⟩⟩
  obtain ⟨v, hv, rv⟩ := t'.get hy
  refine ⟨⟨ws, v, e2', hv⟩, fun v2 H2 ⟨eh, y2⟩ => ⟨W', eh.symm, Ext.refl _, S', ?_⟩⟩
  have := y2 ws e2'
  rw [hv] at this
  cases this
  exact rv
theorem im_seq {m : ME} (he : EM X c e m) : IM X c tg e (seqI m) := pi_wk (pi_seq he) fun σ H R ⟨W, h, s, e, S, rs, p⟩ => by
  subst e
  refine ⟨W, h, s, rfl, S, rs, p.bnd fun W1 h1 x x1 S1 p1 v r1 => ?_⟩
  cases x with
  | tup xs =>
    obtain ⟨a, e1, e2, j⟩ := jr_tup S1 r1 (.inl rfl)
    exact .inr ⟨a, e1, e2, Pst.now p1 S1 _ j⟩
  | ktp xs =>
    obtain ⟨a, e1, e2, j⟩ := jr_tup S1 r1 (.inr rfl)
    exact .inr ⟨a, e1, e2, Pst.now p1 S1 _ j⟩
  | fls xs =>
    obtain ⟨a, e1, e2, j⟩ := jr_lst S1 r1 (.inl rfl)
    exact .inl ⟨a, e1, e2, Pst.now p1 S1 _ j⟩
  | frz xs =>
    obtain ⟨a, e1, e2, j⟩ := jr_lst S1 r1 (.inr rfl)
    exact .inl ⟨a, e1, e2, Pst.now p1 S1 _ j⟩
  | ref l =>
    have p' : Pst X.K c (CI X.K R) W1 (match h1[l]? with | some (.lst xs) => ok (.dyn l (xs.length + 1)) h1 | _ => none) := p1
    cases hl : h1[l]? with
    | none =>
      rw [hl] at p'
      exact p'.elim
    | some o =>
      rw [hl] at p'
      cases o with
      | lst xs =>
        obtain ⟨a, vs, e1, e2, e3, t⟩ := S1.lstAt hl r1
        exact .inl ⟨a, e1, ⟨vs, .inl (.inl e3)⟩, Pst.now p' S1 _ ⟨a, e2, rfl⟩⟩
      | dead => exact p'.elim
      | dK kvs => exact p'.elim
      | ins cn kvs => exact p'.elim
  | _ => exact p1.elim
theorem runOf_get {a : Int} {n i : Nat} {x : MV} (h : (runOf a n)[i]? = some x) : i < n ∧ x = .int (a + i) := by
  unfold runOf at h
  rw [List.getElem?_map] at h
  by_cases hi : i < n
  · rw [List.getElem?_range hi] at h
    exact ⟨hi, (Option.some.inj h).symm⟩
  · rw [List.getElem?_eq_none (by rw [List.length_range]; omega)] at h
    cases h
theorem runOf_len {a : Int} {n : Nat} : (runOf a n).length = n := by
  unfold runOf
  rw [List.length_map, List.length_range]
theorem jr_rng {a : Int} {n : Nat} : JR K W (.st (runOf a n)) (Itr a n) := fun i W' h' x' S' => by
  refine ⟨fun y hy => ?_, fun hi => by rw [runOf_len] at hi; exact hi⟩
  obtain ⟨h1, h2⟩ := runOf_get hy
  subst h2
  exact ⟨h1, fun v H2 ⟨eh, ev⟩ => ⟨W', eh.symm, Ext.refl _, S', by rw [ev]; exact .int _⟩⟩
theorem rng1F_ok {C : Wd → MIter → Prop} {xs : List MV} {h : MH} (p : Pst K c C W (rng1F xs h)) (S : Sim K W h) : ∃ n : Int, xs = [.int n] ∧ (n ≤ 1000000 ∧ -1000000 ≤ n) ∧ C W (.st (runOf 0 n.toNat)) := by
  unfold rng1F at p
  split at p
  · rename_i n
    by_cases q : n ≤ 1000000 ∧ -1000000 ≤ n
    · rw [if_pos q] at p
      exact ⟨n, rfl, q, Pst.now p S⟩
    · rw [if_neg q] at p
      exact p.elim
  · exact p.elim
theorem rng2F_ok {C : Wd → MIter → Prop} {xs : List MV} {h : MH} (p : Pst K c C W (rng2F xs h)) (S : Sim K W h) : ∃ n k : Int, xs = [.int n, .int k] ∧ ((n ≤ 1000000 ∧ -1000000 ≤ n) ∧ (k ≤ 1000000 ∧ -1000000 ≤ k)) ∧ C W (.st (runOf n (k - n).toNat)) := by
  unfold rng2F at p
  split at p
  · rename_i n k
    by_cases q : (n ≤ 1000000 ∧ -1000000 ≤ n) ∧ (k ≤ 1000000 ∧ -1000000 ≤ k)
    · rw [if_pos q] at p
      exact ⟨n, k, rfl, q, Pst.now p S⟩
    · rw [if_neg q] at p
      exact p.elim
  · exact p.elim
theorem rvs_one {x : MV} {vs : List V} (r : RVs K W [x] vs) : ∃ v, vs = [v] ∧ RV K W x v := by
  cases r with
  | cons r t =>
    cases t
    exact ⟨_, rfl, r⟩
theorem rvs_two {x y : MV} {vs : List V} (r : RVs K W [x, y] vs) : ∃ v w, vs = [v, w] ∧ RV K W x v ∧ RV K W y w := by
  cases r with
  | cons r t =>
    obtain ⟨w, rfl, r2⟩ := rvs_one t
    exact ⟨_, w, rfl, r, r2⟩
theorem im_rng1 {m : MM (List MV)} {p pos : Pos} (hg : Gl X "range") (hm : X.mg "range" = none) (ha : AM X c [a] m) (hs : starEach [a] X.env = [(false, eval a X.env)] := by rfl) : IM X c tg (.Call (.Name "range" p) [a] [] pos) (rng1 m) :=
  pi_wk (pi_range1 hg hm ha hs) fun σ H R ⟨W, h, s, e, S, rs, p⟩ => by
    subst e
    refine ⟨W, h, s, rfl, S, rs, p.bnd fun W1 h1 xs x1 S1 p1 vs r1 => ?_⟩
    obtain ⟨n, rfl, q, p'⟩ := rng1F_ok p1 S1
    obtain ⟨v, rfl, r⟩ := rvs_one r1
    exact ⟨n, by rw [rv_int r], by omega, by omega, p' _ jr_rng⟩
theorem im_rng2 {m : MM (List MV)} {p pos : Pos} (hg : Gl X "range") (hm : X.mg "range" = none) (ha : AM X c [a, b] m) (hs : starEach [a, b] X.env = [(false, eval a X.env), (false, eval b X.env)] := by rfl) (hs2 : starEach [b] X.env = [(false, eval b X.env)] := by rfl) :
    IM X c tg (.Call (.Name "range" p) [a, b] [] pos) (rng2 m) :=
  pi_wk (pi_range2 hg hm ha hs hs2) fun σ H R ⟨W, h, s, e, S, rs, p⟩ => by
    subst e
    refine ⟨W, h, s, rfl, S, rs, p.bnd fun W1 h1 xs x1 S1 p1 vs r1 => ?_⟩
    obtain ⟨n, k, rfl, q, p'⟩ := rng2F_ok p1 S1
    obtain ⟨v, w, rfl, r, r2⟩ := rvs_two r1
    exact ⟨n, k, by rw [rv_int r, rv_int r2], by omega, p' _ jr_rng⟩
end
/-! ### for, while -/
def forS (bd : MV → MT) : List MV → MT
  | [], s, h => some (.nx s h)
  | x :: xs, s, h => match bd x s h with
    | some (.nx s1 h1) => forS bd xs s1 h1
    | some (.cnt s1 h1) => forS bd xs s1 h1
    | some (.brk s1 h1) => some (.nx s1 h1)
    | some (.ret v h1) => some (.ret v h1)
    | some (.ex e h1) => some (.ex e h1)
    | none => none
def forL (bd : MV → MT) (l : Nat) : Nat → Nat → MT
  | 0, _, _, _ => none
  | n + 1, i, s, h => match h[l]? with
    | some (.lst xs) => match xs[i]? with
      | none => some (.nx s h)
      | some x => match bd x s h with
        | some (.nx s1 h1) => forL bd l n (i + 1) s1 h1
        | some (.cnt s1 h1) => forL bd l n (i + 1) s1 h1
        | some (.brk s1 h1) => some (.nx s1 h1)
        | some (.ret v h1) => some (.ret v h1)
        | some (.ex e h1) => some (.ex e h1)
        | none => none
    | _ => none
@[simp ↓] def turnM (g : MV → MS → Option MS) (m : MT) (x : MV) : MT := fun s h => match g x s with
  | some s1 => m s1 h
  | none => none
@[simp ↓] def forM (mi : MM MIter) (g : MV → MS → Option MS) (m : MT) : MT := fun s h => bndS (mi s h) fun it h1 => match it with
  | .st its => forS (turnM g m) its s h1
  | .dyn l n => forL (turnM g m) l n 0 s h1
def whlG (cd : MM Bool) (bd : MT) : Nat → MT
  | 0, _, _ => none
  | n + 1, s, h => bndS (cd s h) fun b h1 => if b = true then (match bd s h1 with
    | some (.nx s1 h2) => whlG cd bd n s1 h2
    | some (.cnt s1 h2) => whlG cd bd n s1 h2
    | some (.brk s1 h2) => some (.nx s1 h2)
    | some (.ret v h2) => some (.ret v h2)
    | some (.ex e h2) => some (.ex e h2)
    | none => none) else some (.nx s h1)
section
variable {X : Cx} {c : XC} {tg e : Expr} {K : PySem.W.Frag} {W : Wd} {pos : Pos} {body : List Stmt}
theorem s_for {mi : MM MIter} {t : TG} {g : MV → MS → Option MS} {m : MT} (hp : PassesOwn (model X.prog X.w) X.A X.env X.xe) (hc : X.calm = true) (hi : IM X c tg e mi) (hg : PG X tg t) (ho : TgM X.K t g) (hb : SsM X c body m)
    (hs : ∀ x, foldedSetIterable e X.env x = pure x := by intro _; rfl) : SM X c (.For tg e body [] pos) (forM mi g m) := ps_wk (ps_for hp hc hi hg hb hs) fun D σ H ⟨W, h, s, e, S, rs, p⟩ => by
  subst e
  refine ⟨W, h, s, rfl, S, rs, p.bnd fun W1 h1 it x1 S1 p1 J jr => ?_⟩
  cases it with
  | st its =>
    refine ⟨fun i n σ' H' => n = its.length - i ∧ i ≤ its.length ∧ ∃ W' h' s', W'.H = H' ∧ Ext W1 W' ∧ Sim X.K W' h' ∧ RS X.K W' s' σ' ∧ PstS X.K c D W' (forS (turnM g m) (its.drop i) s' h'),
      ⟨its.length, rfl, Nat.zero_le _, W1, h1, s, rfl, Ext.refl _, S1, rs.mono x1, p1⟩, ?_⟩
    rintro i n σ' H' ⟨hn, hle, W', h', s', rfl, x', S', rs', p'⟩
    obtain ⟨j1, j2⟩ := jr i W' h' x' S'
    by_cases hi : i < its.length
    · obtain ⟨jg, jy⟩ := j1 its[i] (List.getElem?_eq_getElem hi)
      rw [List.drop_eq_getElem_cons hi] at p'
      refine .inr ⟨jg, fun σ2 H2 => ∃ W2 h2 s2, W2.H = H2 ∧ Ext W1 W2 ∧ Sim X.K W2 h2 ∧ RS X.K W2 s2 σ2 ∧ PstS X.K c D W2 (forS (turnM g m) (its.drop (i + 1)) s2 h2), fun σ2 H2 w => ⟨its.length - (i + 1), by omega, rfl, by omega, w⟩, fun v H2 y => ?_⟩
      obtain ⟨W2, rfl, x2, S2, r2⟩ := jy v H2 y
      have p2 : PstS X.K c D W2 (forS (turnM g m) (its[i] :: its.drop (i + 1)) s' h') := PstS.shift x2 p'
      unfold forS turnM at p2
      cases hgx : g its[i] s' with
      | none =>
        rw [hgx] at p2
        exact p2.elim
      | some s3 =>
        rw [hgx] at p2
        refine ho W2 s' s3 σ' _ v _ (rs'.mono x2) r2 hgx fun σ3 rs3 => ⟨W2, h', s3, rfl, S2, rs3, ?_⟩
        cases hm : m s3 h' with
        | none =>
          simp only [hm] at p2
          exact p2.elim
        | some r =>
          simp only [hm] at p2
          cases r with
          | nx s4 h4 => exact fun W4 σ4 x4 S4 rs4 => ⟨W4, h4, s4, rfl, (x'.trans x2).trans x4, S4, rs4, PstS.shift x4 p2⟩
          | cnt s4 h4 => exact fun W4 σ4 x4 S4 rs4 => ⟨W4, h4, s4, rfl, (x'.trans x2).trans x4, S4, rs4, PstS.shift x4 p2⟩
          | brk s4 h4 => exact p2
          | ret x4 h4 => exact p2
          | ex e4 h4 => exact p2
    · have e0 : its.drop i = [] := List.drop_eq_nil_of_le (by omega)
      rw [e0] at p'
      exact .inl ⟨j2 (by omega), p' W' σ' (Ext.refl _) S' rs'⟩
  | dyn l k =>
    obtain ⟨a, ea, rfl⟩ := jr
    have hl1 : l < W1.n := by
      rw [S1.n]
      exact S1.lt l a ea
    refine ⟨fun i n σ' H' => ∃ W' h' s', W'.H = H' ∧ Ext W1 W' ∧ Sim X.K W' h' ∧ RS X.K W' s' σ' ∧ PstS X.K c D W' (forL (turnM g m) l n i s' h'),
      ⟨k, W1, h1, s, rfl, Ext.refl _, S1, rs.mono x1, p1⟩, ?_⟩
    rintro i n σ' H' ⟨W', h', s', rfl, x', S', rs', p'⟩
    cases n with
    | zero => exact p'.elim
    | succ n =>
      unfold forL at p'
      cases hl : h'[l]? with
      | none =>
        rw [hl] at p'
        exact p'.elim
      | some o =>
        rw [hl] at p'
        cases o with
        | dead => exact p'.elim
        | dK kvs => exact p'.elim
        | ins cn kvs => exact p'.elim
        | lst xs =>
          obtain ⟨a', ea'⟩ := S'.live l _ hl (by intro z; cases z)
          obtain rfl : a' = a := by
            rcases x'.agree l hl1 with q | q
            · rw [q, ea] at ea'
              exact (Option.some.inj ea').symm
            · rw [q] at ea'
              cases ea'
          obtain ⟨o2, e2, ro⟩ := S'.obj l a' ea'
          rw [hl] at e2
          cases e2
          obtain ⟨vs, hv, t⟩ := ro
          have hsq : SqL X.K W'.H a' vs := .inl (.inl hv)
          have p2 : PstS X.K c D W' (match xs[i]? with
            | none => some (.nx s' h')
            | some x => match turnM g m x s' h' with
              | some (.nx s1 h1) => forL (turnM g m) l n (i + 1) s1 h1
              | some (.cnt s1 h1) => forL (turnM g m) l n (i + 1) s1 h1
              | some (.brk s1 h1) => some (.nx s1 h1)
              | some (.ret v h1) => some (.ret v h1)
              | some (.ex e h1) => some (.ex e h1)
              | none => none) := p'
          cases hx : xs[i]? with
          | none =>
            rw [hx] at p2
            have hi : vs.length ≤ i := by
              rw [← t.length]
              exact List.getElem?_eq_none_iff.mp hx
            exact .inl ⟨⟨vs, hsq, hi⟩, p2 W' σ' (Ext.refl _) S' rs'⟩
          | some x =>
            rw [hx] at p2
            obtain ⟨v, hvi, rv⟩ := t.get hx
            refine .inr ⟨⟨vs, v, hsq, hvi⟩, fun σ2 H2 => ∃ W2 h2 s2, W2.H = H2 ∧ Ext W1 W2 ∧ Sim X.K W2 h2 ∧ RS X.K W2 s2 σ2 ∧ PstS X.K c D W2 (forL (turnM g m) l n (i + 1) s2 h2), fun σ2 H2 w => ⟨n, Nat.lt_succ_self _, w⟩, fun v2 H2 y => ?_⟩
            obtain ⟨rfl, y2⟩ := y
            have := y2 vs hsq
            rw [hvi] at this
            cases this
            unfold turnM at p2
            cases hgx : g x s' with
            | none =>
              simp only [hgx] at p2
              exact p2.elim
            | some s3 =>
              simp only [hgx] at p2
              refine ho W' s' s3 σ' _ v _ rs' rv hgx fun σ3 rs3 => ⟨W', h', s3, rfl, S', rs3, ?_⟩
              cases hm : m s3 h' with
              | none =>
                simp only [hm] at p2
                exact p2.elim
              | some r =>
                simp only [hm] at p2
                cases r with
                | nx s4 h4 => exact fun W4 σ4 x4 S4 rs4 => ⟨W4, h4, s4, rfl, x'.trans x4, S4, rs4, PstS.shift x4 p2⟩
                | cnt s4 h4 => exact fun W4 σ4 x4 S4 rs4 => ⟨W4, h4, s4, rfl, x'.trans x4, S4, rs4, PstS.shift x4 p2⟩
                | brk s4 h4 => exact p2
                | ret x4 h4 => exact p2
                | ex e4 h4 => exact p2
theorem s_while {cd : Expr} {mc : MM Bool} {m : MT} (n : Nat) (hp : PassesOwn (model X.prog X.w) X.A X.env X.xe) (hc : BM X c cd mc) (hb : SsM X c body m) : SM X c (.While cd body [] pos) (whlG mc m n) := ps_wk (ps_while hp hc hb) fun D σ H ⟨W, h, s, e, S, rs, p⟩ => by
  subst e
  refine ⟨fun k σ' H' => ∃ W' h' s', W'.H = H' ∧ Sim X.K W' h' ∧ RS X.K W' s' σ' ∧ PstS X.K c D W' (whlG mc m k s' h'), ⟨n, W, h, s, rfl, S, rs, p⟩, ?_⟩
  rintro k σ' H' ⟨W', h', s', rfl, S', rs', p'⟩
  cases k with
  | zero => exact p'.elim
  | succ k =>
    refine ⟨W', h', s', rfl, S', rs', p'.bnd fun W1 h1 b x1 S1 p1 => ?_⟩
    cases b with
    | false => exact p1 W1 σ' (Ext.refl _) S1 (rs'.mono x1)
    | true =>
      rw [if_pos rfl] at p1
      refine iteT (B := D.nx σ' W1.H) ⟨fun σ2 H2 => ∃ W2 h2 s2, W2.H = H2 ∧ Sim X.K W2 h2 ∧ RS X.K W2 s2 σ2 ∧ PstS X.K c D W2 (whlG mc m k s2 h2), fun σ2 H2 w => ⟨k, Nat.lt_succ_self _, w⟩, W1, h1, s', rfl, S1, rs'.mono x1, ?_⟩
      cases hm : m s' h1 with
      | none =>
        simp only [hm] at p1
        exact p1.elim
      | some r =>
        simp only [hm] at p1
        cases r with
        | nx s4 h4 => exact fun W4 σ4 x4 S4 rs4 => ⟨W4, h4, s4, rfl, S4, rs4, PstS.shift x4 p1⟩
        | cnt s4 h4 => exact fun W4 σ4 x4 S4 rs4 => ⟨W4, h4, s4, rfl, S4, rs4, PstS.shift x4 p1⟩
        | brk s4 h4 => exact p1
        | ret x4 h4 => exact p1
        | ex e4 h4 => exact p1
end
end Mi
set_option maxHeartbeats 2000000
/-! Mi: comprehensions, own defs called, what stands still. -/
namespace Mi
open PySem L2
/-! ### comprehensions -/
theorem set_comm {α : Type} {l : List α} {i j : Nat} {a b : α} (h : i ≠ j) : (l.set i a).set j b = (l.set j b).set i a := List.set_comm a b h
theorem wipe_set {σ : St} {i : Nat} {o : Option V} : ∀ {vs : List Nat}, i ∈ vs → L2.wipe (σ.set i o) vs = L2.wipe σ vs
  | [], h => by cases h
  | v :: vs, h => by
    show (L2.wipe (σ.set i o) vs).set v none = (L2.wipe σ vs).set v none
    have go : ∀ {vs : List Nat}, ¬ i ∈ vs → L2.wipe (σ.set i o) vs = (L2.wipe σ vs).set i o := fun {vs} => by
      induction vs with
      | nil => exact fun _ => rfl
      | cons w ws ih =>
        intro hn
        have h1 : ¬ i ∈ ws := fun z => hn (List.mem_cons_of_mem _ z)
        have h2 : i ≠ w := fun z => hn (by rw [z]; exact List.mem_cons_self ..)
        show (L2.wipe (σ.set i o) ws).set w none = ((L2.wipe σ ws).set w none).set i o
        rw [ih h1, set_comm h2]
    by_cases hm : i ∈ vs
    · rw [wipe_set hm]
    · rcases List.mem_cons.mp h with e | e
      · rw [go hm, e, List.set_set]
      · exact absurd e hm
theorem wipe_get {σ : St} {i : Nat} : ∀ {vs : List Nat}, (L2.wipe σ vs)[i]? = if i ∈ vs ∧ i < σ.length then some none else σ[i]?
  | [] => by
    show σ[i]? = _
    rw [if_neg (by simp)]
  | v :: vs => by
    show ((L2.wipe σ vs).set v none)[i]? = _
    by_cases hv : v = i
    · subst hv
      by_cases hl : v < σ.length
      · rw [List.getElem?_set_self (by rw [wipe_length]; exact hl), if_pos ⟨List.mem_cons_self .., hl⟩]
      · rw [if_neg (fun z => hl z.2), List.getElem?_eq_none (by rw [List.length_set, wipe_length]; omega), List.getElem?_eq_none (by omega)]
    · rw [List.getElem?_set_ne hv, wipe_get (vs := vs)]
      by_cases hm : i ∈ vs ∧ i < σ.length
      · rw [if_pos hm, if_pos ⟨List.mem_cons_of_mem _ hm.1, hm.2⟩]
      · rw [if_neg hm, if_neg fun z => hm ⟨(List.mem_cons.mp z.1).resolve_left fun y => hv y.symm, z.2⟩]
theorem wipe_wipe {σ : St} {vs : List Nat} : L2.wipe (L2.wipe σ vs) vs = L2.wipe σ vs := by
  apply List.ext_getElem?
  intro i
  rw [wipe_get, wipe_get, wipe_length]
  by_cases h : i ∈ vs ∧ i < σ.length
  · rw [if_pos h, if_pos h]
  · rw [if_neg h]
def lcS (g : MV → MS → Option MS) (cd : MM Bool) (el : ME) (s0 : MS) : List MV → List MV → MH → Res (List MV)
  | [], acc, h => ok acc h
  | x :: xs, acc, h => match g x s0 with
    | none => none
    | some s1 => (cd s1 h).bnd fun b h1 => if b = true then (el s1 h1).bnd fun y h2 => if acc.length < lim then lcS g cd el s0 xs (acc ++ [y]) h2 else none else lcS g cd el s0 xs acc h1
def lcL (g : MV → MS → Option MS) (cd : MM Bool) (el : ME) (s0 : MS) (l : Nat) : Nat → Nat → List MV → MH → Res (List MV)
  | 0, _, _, _ => none
  | n + 1, i, acc, h => match h[l]? with
    | some (.lst zs) => match zs[i]? with
      | none => ok acc h
      | some x => match g x s0 with
        | none => none
        | some s1 => (cd s1 h).bnd fun b h1 => if b = true then (el s1 h1).bnd fun y h2 => if acc.length < lim then lcL g cd el s0 l n (i + 1) (acc ++ [y]) h2 else none else lcL g cd el s0 l n (i + 1) acc h1
    | _ => none
@[simp ↓] def lcM (mi : MM MIter) (vs : List Nat) (g : MV → MS → Option MS) (cd : MM Bool) (el : ME) : MM (List MV) := fun s h => (mi s h).bnd fun it h1 => match it with
  | .st its => lcS g cd el (wipeM s vs) its [] h1
  | .dyn l n => lcL g cd el (wipeM s vs) l n 0 [] h1
section
variable {K : PySem.W.Frag} {c : XC} {α β : Type}
theorem Pst.bnd2 {C1 : Wd → α → Prop} {C2 : Wd → β → Prop} {W W0 : Wd} {r : Res α} {k : α → MH → Res β} (p : Pst K c C2 W0 (r.bnd k)) (x0 : Ext W0 W)
    (i : ∀ W1 h1 a, Ext W W1 → Sim K W1 h1 → Pst K c C2 W0 (k a h1) → C1 W1 a) : Pst K c C1 W r := by
  match r, p with
  | some (.ok a h), p => exact fun W2 x2 s => i W2 h a x2 s p
  | some (.ex e h), p => exact PX.shift x0 p
/-- a comprehension's target -/
def TgC (K : PySem.W.Frag) (t : TG) (g : MV → MS → Option MS) (vs : List Nat) : Prop := ∀ (W : Wd) (s s' : MS) (σ : St) (x : MV) (v : V) (Q : St → Hp → Prop), RS K W s σ → RV K W x v → g x s = some s' → (∀ σ', RS K W s' σ' → L2.wipe σ' vs = L2.wipe σ vs → Q σ' W.H) → t v σ W.H Q
theorem tc_one {i : Nat} {vs : List Nat} (hi : i ∈ vs) : TgC K (gName i) (one i) vs := fun W s s' σ x v Q rs r e q => by
  cases e
  exact q _ (rs.set r i) (wipe_set hi)
theorem tc_all {vs : List Nat} : ∀ (is : List Nat), (∀ i ∈ is, i ∈ vs) → ∀ (W : Wd) (s s' : MS) (σ : St) (xs : List MV) (ws : List V) (Q : St → Hp → Prop), RS K W s σ → RVs K W xs ws → putAll is xs s = some s' →
    (∀ σ', RS K W s' σ' → L2.wipe σ' vs = L2.wipe σ vs → Q σ' W.H) → gNames is ws σ W.H Q
  | [], _, W, s, s', σ, [], _, Q, rs, .nil, e, q => by
    cases e
    exact ⟨rfl, q σ rs rfl⟩
  | i :: is, hm, W, s, s', σ, x :: xs, _, Q, rs, .cons r t, e, q => ⟨_, _, rfl, tc_all is (fun j hj => hm j (List.mem_cons_of_mem _ hj)) W _ s' _ xs _ Q (rs.set r i) t e fun σ' rs' hw => q σ' rs' (hw.trans (wipe_set (hm i (List.mem_cons_self ..))))⟩
  | [], _, _, _, _, _, _ :: _, _, _, _, _, e, _ => by cases e
  | _ :: _, _, _, _, _, _, [], _, _, _, _, e, _ => by cases e
theorem tc_tup {vs : List Nat} (is : List Nat) (hm : ∀ i ∈ is, i ∈ vs) : TgC K (gTup K is.length (gNames is)) (unp is) vs := fun W s s' σ x v Q rs r e q => by
  cases x <;> first | (cases e; done) | skip
  rename_i xs
  obtain ⟨a, ws, rfl, hq, t⟩ := tup_sq r
  exact ⟨a, ws, rfl, hq, by rw [← t.length]; exact putAll_len e, tc_all is hm W s s' σ xs ws Q rs t e q⟩
/-- one turn of a comprehension -/
theorem lc_turn {W0 W : Wd} {h : MH} {s0 : MS} {σ : St} {vs : List Nat} {D : Addr} {acc : List MV} {aV : List V} {g : MV → MS → Option MS} {cd : MM Bool} {el : ME} {t : TG} {x : MV} {v : V} {C : Wd → List MV → Prop} {Nx : Hp → Prop}
    {k : List MV → MH → Res (List MV)} (ho : TgC K t g vs) (x0 : Ext W0 W) (S : Sim K W h) (hD0 : W0.H D = none) (hh : W.hid D) (hD : W.H D = some (.lst aV)) (ra : RVs K W acc aV) (rs : RS K W0 s0 (L2.wipe σ vs)) (r : RV K W x v)
    (p : Pst K c C W0 (match g x s0 with
      | none => none
      | some s1 => (cd s1 h).bnd fun b h1 => if b = true then (el s1 h1).bnd fun y h2 => if acc.length < lim then k (acc ++ [y]) h2 else none else k acc h1))
    (nx : ∀ W' h' acc' aV', Ext W0 W' → Sim K W' h' → W'.hid D → W'.H D = some (.lst aV') → RVs K W' acc' aV' → Pst K c C W0 (k acc' h') → Nx W'.H) :
    t v (L2.wipe σ vs) W.H fun σ2 H2 => L2.wipe σ2 vs = L2.wipe σ vs ∧ tMB K c cd σ2 H2 fun b H3 => if b = true then tM K c el σ2 H3 fun y H4 => ∃ acc, H4 D = some (.lst acc) ∧ acc.length < sizeLine ∧ Nx (upd H4 D (.lst (acc ++ [y]))) else Nx H3 := by
  cases hg : g x s0 with
  | none =>
    rw [hg] at p
    exact p.elim
  | some s1 =>
    rw [hg] at p
    refine ho W s0 s1 _ x v _ (rs.mono x0) r hg fun σ2 rs2 hw => ⟨hw.trans wipe_wipe, W, h, s1, rfl, S, rs2, ?_⟩
    refine Pst.bnd2 p x0 fun W1 h1 b x1 S1 p1 => ?_
    obtain ⟨hD1, hh1⟩ := x1.hidf D _ hh hD
    cases b with
    | false => exact nx W1 h1 acc aV (x0.trans x1) S1 hh1 hD1 (ra.mono x1) p1
    | true =>
      refine iteT (B := Nx W1.H) ⟨W1, h1, s1, rfl, S1, rs2.mono x1, ?_⟩
      rw [if_pos rfl] at p1
      refine Pst.bnd2 p1 (x0.trans x1) fun W2 h2 y x2 S2 p2 u r2 => ?_
      obtain ⟨hD2, hh2⟩ := x2.hidf D _ hh1 hD1
      by_cases hl : acc.length < lim
      · rw [if_pos hl] at p2
        refine ⟨aV, hD2, Nat.lt_of_lt_of_le (by rw [← ra.length]; exact hl) (lim_line (Nat.le_refl _)), ?_⟩
        exact nx (W2.wr D (.lst (aV ++ [u]))) h2 (acc ++ [y]) (aV ++ [u]) (Ext.wrh hh2 S2 ((x0.trans x1).trans x2) hD0) (S2.wrh hh2) hh2 upd_same ((((ra.mono x1).mono x2).append (.one r2)).wrh hh2) p2
      · rw [if_neg hl] at p2
        exact p2.elim
end
section
variable {X : Cx} {c : XC}
theorem lc_of {K : PySem.W.Frag} {vs : List Nat} {mi : MM MIter} {t : TG} {g : MV → MS → Option MS} {cd : MM Bool} {el : ME} (ho : TgC K t g vs) {σ : St} {H : Hp} {Q : VK} (q : tML K c (lcM mi vs g cd el) σ H Q) : tLc (tMI K c mi) t (tMB K c cd) (tM K c el) vs σ H Q := by
  obtain ⟨W, h, s, e, S, rs, p⟩ := q
  subst e
  refine ⟨W, h, s, rfl, S, rs, p.bnd fun W1 h1 it x1 S1 p1 J jr D hD => ?_⟩
  have rs1 : RS K W1 (wipeM s vs) (L2.wipe σ vs) := (rs.mono x1).wipe _
  have xh : Ext W1 (W1.hide D (.lst [])) := Ext.hide S1 hD
  have Sh : Sim K (W1.hide D (.lst [])) h1 := S1.hide hD
  have fin : ∀ (W' : Wd) (h' : MH) (acc : List MV) (aV : List V), Ext W1 W' → Sim K W' h' → W'.hid D → W'.H D = some (.lst aV) → RVs K W' acc aV → Pst K c (CL K Q) W1 (ok acc h') → Q (.ref D) W'.H := fun W' h' acc aV x' S' hh' hD' ra p' => by
    have q := p' (W'.bare D) (x'.bare hD) (S'.bare hh') aV D (ra.bare hh') (if_pos rfl)
    rw [Wd.bare_upd hD'] at q
    exact q
  cases it with
  | st its =>
    refine ⟨fun i n H' => n = its.length - i ∧ i ≤ its.length ∧ ∃ W' h' acc aV, W'.H = H' ∧ Ext W1 W' ∧ Sim K W' h' ∧ W'.hid D ∧ W'.H D = some (.lst aV) ∧ RVs K W' acc aV ∧ Pst K c (CL K Q) W1 (lcS g cd el (wipeM s vs) (its.drop i) acc h'),
      ⟨its.length, rfl, Nat.zero_le _, W1.hide D (.lst []), h1, [], [], rfl, xh, Sh, .inl rfl, upd_same, .nil, p1⟩, ?_⟩
    rintro i n H' ⟨hn, hle, W', h', acc, aV, rfl, x', S', hh', hD', ra, p'⟩
    obtain ⟨j1, j2⟩ := jr i W' h' x' S'
    by_cases hi : i < its.length
    · obtain ⟨jg, jy⟩ := j1 its[i] (List.getElem?_eq_getElem hi)
      rw [List.drop_eq_getElem_cons hi] at p'
      refine .inr ⟨jg, fun H2 => ∃ W2 h2 acc2 aV2, W2.H = H2 ∧ Ext W1 W2 ∧ Sim K W2 h2 ∧ W2.hid D ∧ W2.H D = some (.lst aV2) ∧ RVs K W2 acc2 aV2 ∧ Pst K c (CL K Q) W1 (lcS g cd el (wipeM s vs) (its.drop (i + 1)) acc2 h2),
        fun H2 w => ⟨its.length - (i + 1), by omega, rfl, by omega, w⟩, fun v H2 y => ?_⟩
      obtain ⟨W2, rfl, x2, S2, r2⟩ := jy v H2 y
      obtain ⟨hD2, hh2⟩ := x2.hidf D _ hh' hD'
      unfold lcS at p'
      exact lc_turn ho (x'.trans x2) S2 hD hh2 hD2 (ra.mono x2) rs1 r2 p' fun W3 h3 acc3 aV3 x3 S3 hh3 hD3 ra3 p3 => ⟨W3, h3, acc3, aV3, rfl, x3, S3, hh3, hD3, ra3, p3⟩
    · have e0 : its.drop i = [] := List.drop_eq_nil_of_le (by omega)
      rw [e0] at p'
      exact .inl ⟨j2 (by omega), fin W' h' acc aV x' S' hh' hD' ra p'⟩
  | dyn l k =>
    obtain ⟨a, ea, rfl⟩ := jr
    have hl1 : l < W1.n := by
      rw [S1.n]
      exact S1.lt l a ea
    refine ⟨fun i n H' => ∃ W' h' acc aV, W'.H = H' ∧ Ext W1 W' ∧ Sim K W' h' ∧ W'.hid D ∧ W'.H D = some (.lst aV) ∧ RVs K W' acc aV ∧ Pst K c (CL K Q) W1 (lcL g cd el (wipeM s vs) l n i acc h'),
      ⟨k, W1.hide D (.lst []), h1, [], [], rfl, xh, Sh, .inl rfl, upd_same, .nil, p1⟩, ?_⟩
    rintro i n H' ⟨W', h', acc, aV, rfl, x', S', hh', hD', ra, p'⟩
    cases n with
    | zero => exact p'.elim
    | succ n =>
      unfold lcL at p'
      cases hl : h'[l]? with
      | none =>
        rw [hl] at p'
        exact p'.elim
      | some o =>
        rw [hl] at p'
        cases o with
        | dead => exact p'.elim
        | dK kvs => exact p'.elim
        | ins cn kvs => exact p'.elim
        | lst zs =>
          obtain ⟨a', ea'⟩ := S'.live l _ hl (by intro z; cases z)
          obtain rfl : a' = a := by
            rcases x'.agree l hl1 with q | q
            · rw [q, ea] at ea'
              exact (Option.some.inj ea').symm
            · rw [q] at ea'
              cases ea'
          obtain ⟨o2, e2, ro⟩ := S'.obj l a' ea'
          rw [hl] at e2
          cases e2
          obtain ⟨ws, hv, t⟩ := ro
          have hsq : SqL K W'.H a' ws := .inl (.inl hv)
          dsimp only at p'
          cases hx : zs[i]? with
          | none =>
            rw [hx] at p'
            have hi : ws.length ≤ i := by
              rw [← t.length]
              exact List.getElem?_eq_none_iff.mp hx
            exact .inl ⟨⟨ws, hsq, hi⟩, fin W' h' acc aV x' S' hh' hD' ra p'⟩
          | some x =>
            rw [hx] at p'
            obtain ⟨v, hvi, rv⟩ := t.get hx
            refine .inr ⟨⟨ws, v, hsq, hvi⟩, fun H2 => ∃ W2 h2 acc2 aV2, W2.H = H2 ∧ Ext W1 W2 ∧ Sim K W2 h2 ∧ W2.hid D ∧ W2.H D = some (.lst aV2) ∧ RVs K W2 acc2 aV2 ∧ Pst K c (CL K Q) W1 (lcL g cd el (wipeM s vs) l n (i + 1) acc2 h2),
              fun H2 w => ⟨n, Nat.lt_succ_self _, w⟩, fun v2 H2 y => ?_⟩
            obtain ⟨rfl, y2⟩ := y
            have := y2 ws hsq
            rw [hvi] at this
            cases this
            exact lc_turn ho x' S' hD hh' hD' ra rs1 rv p' fun W3 h3 acc3 aV3 x3 S3 hh3 hD3 ra3 p3 => ⟨W3, h3, acc3, aV3, rfl, x3, S3, hh3, hD3, ra3, p3⟩
theorem lm_lc {elt tg iter : Expr} {ifs : List Expr} {scope : Scope} {own : List (Str × Nat)} {pos : Pos} {mi : MM MIter} {t : TG} {g : MV → MS → Option MS} {cd : MM Bool} {el : ME} (ho : TgC X.K t g (own.map (·.2)))
    (h : PE X (.ListComp elt [⟨tg, iter, ifs, 0⟩] scope pos) (tLc (tMI X.K c mi) t (tMB X.K c cd) (tM X.K c el) (own.map (·.2)))) : LM X c (.ListComp elt [⟨tg, iter, ifs, 0⟩] scope pos) (lcM mi (own.map (·.2)) g cd el) := pe_wk h fun _ _ _ q => lc_of ho q
theorem s_lcF {elt tg iter : Expr} {ifs : List Expr} {scope : Scope} {own : List (Str × Nat)} {pos spos py : Pos} {y : Str} {i : Nat} {mi : MM MIter} {t : TG} {g : MV → MS → Option MS} {cd : MM Bool} {el : ME} (ho : TgC X.K t g (own.map (·.2)))
    (h : PS X (.Assign [.Name y py] (.ListComp elt [⟨tg, iter, ifs, 0⟩] scope pos) spos) (tAsg (tLc (tMI X.K c mi) t (tMB X.K c cd) (tM X.K c el) (own.map (·.2))) (gName i))) : SM X c (.Assign [.Name y py] (.ListComp elt [⟨tg, iter, ifs, 0⟩] scope pos) spos) (setS i (flsM (lcM mi (own.map (·.2)) g cd el))) :=
  ps_wk h fun D σ H ⟨W, h, s, e, S, rs, p⟩ => by
    subst e
    exact lc_of ho (fls_of ⟨W, h, s, rfl, S, rs, p.bnd fun W1 h1 y x1 S1 p1 v r1 => p1 W1 _ (Ext.refl _) S1 ((rs.mono x1).set r1 i)⟩)
theorem s_lcR {elt tg iter : Expr} {ifs : List Expr} {scope : Scope} {own : List (Str × Nat)} {pos spos py : Pos} {y : Str} {i : Nat} {mi : MM MIter} {t : TG} {g : MV → MS → Option MS} {cd : MM Bool} {el : ME} (ho : TgC X.K t g (own.map (·.2)))
    (h : PS X (.Assign [.Name y py] (.ListComp elt [⟨tg, iter, ifs, 0⟩] scope pos) spos) (tAsg (tLc (tMI X.K c mi) t (tMB X.K c cd) (tM X.K c el) (own.map (·.2))) (gName i))) : SM X c (.Assign [.Name y py] (.ListComp elt [⟨tg, iter, ifs, 0⟩] scope pos) spos) (setS i (refM (lcM mi (own.map (·.2)) g cd el))) :=
  ps_wk h fun D σ H ⟨W, h, s, e, S, rs, p⟩ => by
    subst e
    exact lc_of ho (ref_of ⟨W, h, s, rfl, S, rs, p.bnd fun W1 h1 y x1 S1 p1 v r1 => p1 W1 _ (Ext.refl _) S1 ((rs.mono x1).set r1 i)⟩)
theorem pts_M {m : MM Bool} {cx : Expr} (h : BM X c cx m) : PTs X [cx] (tMB X.K c m) := pts_one h
theorem pts_y : PTs X [] (tMB X.K c yesT) := ⟨fun pins s σ H Q I h => pts_nil.run pins s σ H Q I (by
  obtain ⟨W, h, s, e, S, rs, p⟩ := h
  subst e
  exact p W (Ext.refl _) S)⟩
end
/-! ### own defs -/
abbrev MF := List MV → MH → Res MV
@[simp ↓] def noex (r : Res MV) : Res MV := match r with
  | some (.ex _ _) => none
  | r => r
theorem noex_is {a : MV} {h : MH} : noex (ok a h) = ok a h := rfl
/-- a def's mirror, by its body's: np parameters, n slots -/
@[simp ↓] def defM (np n : Nat) (m : MT) : MF := fun xs h => if xs.length = np then (match m (xs.map some ++ List.replicate (n - np) none) h with
  | some (.nx _ h') => ok .non h'
  | some (.ret x h') => ok x h'
  | some (.ex e h') => some (.ex e h')
  | _ => none) else none
/-- its promise -/
def spM (K : PySem.W.Frag) (mg : Str → Option Value) (np : Nat) (f : MF) : Sp := fun vs H Q E => ∃ W h xs, W.H = H ∧ Sim K W h ∧ RVs K W xs vs ∧ xs.length = np ∧ Pst K ⟨mg, E⟩ (CV K Q) W (f xs h)
@[simp ↓] def callM (f : MF) (ds : List MV) (a : MM (List MV)) : ME := fun s h => (a s h).bnd fun xs h1 => noex (f (xs ++ ds) h1)
section
variable {P : Program} {w : World} {K : PySem.W.Frag} {mg : Str → Option Value} {base : Heap}
theorem body_ok {N : List Str} {vs : List V} {E : XK} {np : Nat} {m : MT} {Q : VK} {H : Hp} (q : spM K mg np (defM np N.length m) vs H Q E) : tS K ⟨mg, E⟩ m { nx := fun _ H' => Q .non H', rt := Q } (start N vs) H := by
  obtain ⟨W, h, xs, rfl, S, r, hl, p⟩ := q
  unfold defM at p
  rw [if_pos hl] at p
  refine ⟨W, h, xs.map some ++ List.replicate (N.length - np) none, rfl, S, ?_, ?_⟩
  · unfold L2.start
    rw [← r.length, hl]
    exact RS.start r _
  · cases hm : m (xs.map some ++ List.replicate (N.length - np) none) h with
    | none =>
      rw [hm] at p
      exact p.elim
    | some o =>
      rw [hm] at p
      cases o with
      | nx s1 h1 => exact fun W1 σ1 x1 S1 rs1 => p W1 x1 S1 _ .non
      | ret x h1 => exact fun W1 v x1 S1 r1 => p W1 x1 S1 v r1
      | brk s1 h1 => exact p.elim
      | cnt s1 h1 => exact p.elim
      | ex e h1 => exact p
/-- a def of the text, by the mirror of its body; no exception leaves it -/
theorem fn_mir {x qual : Str} {st : Stmt} {f : Addr} {fd : FuncData} {N ps : List Str} {k : Nat} {m : MT} (F : Fun K x qual st f fd) (S : FnScope N ps (defScope st))
    (hb : ∀ (cdv : Value) (A : Around) (outer : List Env) (s : Shared) (H : Hp) (E : XK), Room k (A.deeper (PyProof.Rows.envOfC qual (defScope st) s.heap.objs.size f cdv)) → SsM (cxOf CX0 P w K mg base N qual (defScope st) f cdv A outer s H E).nox ⟨mg, E⟩ (defBody st) m) :
    FnOk P w K mg base CX0 (k + 1) f fd ps (spM K mg ps.length (defM ps.length N.length m)) := by
  refine F.ok S (fun vs H Q E h => ?_) (fun cdv A outer s H vs Q E hr h => ?_)
  · obtain ⟨W, h, xs, _, _, r, hl, _⟩ := h
    rw [← r.length, hl]
  · exact ⟨_, hb cdv A outer s H E hr, body_ok h⟩
theorem fnd_mir {x qual : Str} {params : Arguments} {body : List Stmt} {scope : Scope} {dvs : List V} {kws : List (Str × V)} {f : Addr} {fd : FuncData} {N ps : List Str} {k : Nat} {m : MT} (F : FunD K x qual params body scope dvs kws f fd) (S : FnScope N ps scope)
    (hb : ∀ (cdv : Value) (A : Around) (outer : List Env) (s : Shared) (H : Hp) (E : XK), Room k (A.deeper (PyProof.Rows.envOfC qual scope s.heap.objs.size f cdv)) → SsM (cxOf CX0 P w K mg base N qual scope f cdv A outer s H E) ⟨mg, E⟩ body m) :
    FnOk P w K mg base CX0 (k + 1) f fd ps (spM K mg ps.length (defM ps.length N.length m)) := by
  refine F.ok S (fun vs H Q E h => ?_) (fun cdv A outer s H vs Q E hr h => ?_)
  · obtain ⟨W, h, xs, _, _, r, hl, _⟩ := h
    rw [← r.length, hl]
  · exact ⟨_, hb cdv A outer s H E hr, body_ok h⟩
theorem noex_ok {c c' : XC} {C : Wd → MV → Prop} {W : Wd} {r : Res MV} (p : Pst K c C W (noex r)) : Pst K c' C W r := by
  unfold noex at p
  match r, p with
  | some (.ok a h), p => exact p
end
section
variable {X : Cx} {c : XC} {k : Nat} {f : Addr} {fd : FuncData} {ps : List Str} {ds : List Value} {dvs : List V} {dms : List MV} {x : Str} {p pos : Pos} {e : Expr} {es : List Expr} {m : MM (List MV)} {np : Nat} {fM : MF}
theorem tCall_of {K : PySem.W.Frag} {mg : Str → Option Value} (hd : ∀ W, RVs K W dms dvs) (hn : ∀ xs h, (fM xs h).isSome = true → xs.length = np) {σ : St} {H : Hp} {Q : VK} (q : tM K c (callM fM dms m) σ H Q) : tCall (spM K mg np fM) dvs E0 (tMA K c m) σ H Q := by
  obtain ⟨W, h, s, e, S, rs, p⟩ := q
  subst e
  refine ⟨W, h, s, rfl, S, rs, p.bnd fun W1 h1 xs x1 S1 p1 vs r1 => ?_⟩
  refine ⟨W1, h1, xs ++ dms, rfl, S1, r1.append (hd W1), ?_, noex_ok p1⟩
  cases hf : fM (xs ++ dms) h1 with
  | none =>
    rw [hf] at p1
    exact p1.elim
  | some o => exact hn _ h1 (by rw [hf]; rfl)
theorem em_call (F : FnOk X.prog X.w X.K X.mg X.base CX0 k f fd ps (spM X.K X.mg np fM)) (hn : ∀ xs h, (fM xs h).isSome = true → xs.length = np) (hr : Room k X.A) (hg : Gl X x) (hm : X.mg x = some (.ref f)) (hk : PySem.W.keepIn X.K (.ref f) = true) (hb : Binds X.K fd ps ds) (hd : Vals dvs ds) (hd2 : ∀ W, RVs X.K W dms dvs)
    (ha : AM X c (e :: es) m) (hdb : (x == ("__debug__" : Str)) = false := by decide) (he : starEach (e :: es) X.env = (false, eval e X.env) :: starEach es X.env := by rfl) (hpl : (backTo pos (starEach es X.env)).any (·.1) = false := by rfl) :
    EM X c (.Call (.Name x p) (e :: es) [] pos) (callM fM dms m) := pe_wk (pe_call F hr hg hm hk hb hd pass0 ha hdb he hpl) fun σ H Q q => tCall_of hd2 hn q
theorem em_call0 (F : FnOk X.prog X.w X.K X.mg X.base CX0 k f fd ps (spM X.K X.mg np fM)) (hn : ∀ xs h, (fM xs h).isSome = true → xs.length = np) (hr : Room k X.A) (hg : Gl X x) (hm : X.mg x = some (.ref f)) (hk : PySem.W.keepIn X.K (.ref f) = true) (hb : Binds X.K fd ps ds) (hd : Vals dvs ds) (hd2 : ∀ W, RVs X.K W dms dvs)
    (hdb : (x == ("__debug__" : Str)) = false := by decide) : EM X c (.Call (.Name x p) [] [] pos) (callM fM dms nilA) := pe_wk (pe_call0 F hr hg hm hk hb hd pass0 hdb) fun σ H Q ⟨W, h, s, e, S, rs, p⟩ => by
  subst e
  show spM X.K X.mg np fM ([] ++ dvs) W.H Q E0
  refine ⟨W, h, dms, rfl, S, hd2 W, ?_, noex_ok p⟩
  have p' : Pst X.K c (CV X.K Q) W (noex (fM ([] ++ dms) h)) := p
  cases hf : fM dms h with
  | none =>
    rw [List.nil_append, hf] at p'
    exact p'.elim
  | some o => exact hn _ h (by rw [hf]; rfl)
theorem defM_len {n : Nat} {m : MT} {xs : List MV} {h : MH} (e : (defM np n m xs h).isSome = true) : xs.length = np := by
  unfold defM at e
  by_cases q : xs.length = np
  · exact q
  · rw [if_neg q] at e
    cases e
/-! keywords -/
def pick {α : Type} (is : List Nat) (l : List α) : List α := is.filterMap fun i => l[i]?
theorem RVs.pick {K : PySem.W.Frag} {W : Wd} {xs : List MV} {vs : List V} (r : RVs K W xs vs) : ∀ is : List Nat, RVs K W (Mi.pick is xs) (Mi.pick is vs)
  | [] => .nil
  | i :: is => by
    have ih := RVs.pick r is
    unfold Mi.pick at ih ⊢
    rw [List.filterMap_cons, List.filterMap_cons]
    cases hx : xs[i]? with
    | none =>
      have hv : vs[i]? = none := List.getElem?_eq_none (by rw [← r.length]; exact List.getElem?_eq_none_iff.mp hx)
      rw [hv]
      exact ih
    | some y =>
      obtain ⟨v, hv, rv⟩ := r.get hx
      rw [hv]
      exact .cons rv ih
theorem vals_pick {xs : List V} {us : List Value} (r : Vals xs us) : ∀ is : List Nat, Vals (Mi.pick is xs) (Mi.pick is us)
  | [] => .nil
  | i :: is => by
    have ih := vals_pick r is
    unfold Mi.pick at ih ⊢
    rw [List.filterMap_cons, List.filterMap_cons]
    cases hx : xs[i]? with
    | none =>
      rw [r.none_of hx]
      exact ih
    | some y =>
      obtain ⟨v, hv, rv⟩ := r.get hx
      rw [hv]
      exact .cons rv ih
@[simp ↓] def callKM (f : MF) (n k : Nat) (is : List Nat) (ds : List MV) (a kw : MM (List MV)) : ME := fun s h => (a s h).bnd fun xs h1 => (kw s h1).bnd fun zs h2 => if xs.length = n ∧ zs.length = k then noex (f (pick is (xs ++ zs ++ ds)) h2) else none
abbrev KM (X : Cx) (c : XC) (kws : List Keyword) (m : MM (List MV)) : Prop := PK X kws (tMA X.K c m)
theorem pk_wk {kws : List Keyword} {t t' : TA} (h : PK X kws t) (w : ∀ σ H Q, t' σ H Q → t σ H Q) : PK X kws t' := ⟨fun po pins s σ H Q I q => h.run po pins s σ H Q I (w _ _ _ q)⟩
theorem km_nil : KM X c [] nilA := pk_wk pk_nil fun σ H Q ⟨W, h, s, e, S, rs, p⟩ => by
  subst e
  exact p W (Ext.refl W) S [] .nil
theorem km_cons {ma : ME} {mr : MM (List MV)} {nm : Option Str} {kpos : Pos} {kws : List Keyword} (ha : EM X c e ma) (hr : KM X c kws mr) : KM X c (⟨nm, e, kpos⟩ :: kws) (consA ma mr) :=
  pk_wk (pk_cons ha hr) fun σ H Q ⟨W, h, s, e, S, rs, p⟩ => by
    subst e
    refine ⟨W, h, s, rfl, S, rs, p.bnd fun W1 h1 x x1 S1 p1 v r1 => ?_⟩
    exact ⟨W1, h1, s, rfl, S1, rs.mono x1, p1.bnd fun W2 h2 xs x2 S2 p2 vs r2 => p2 W2 (Ext.refl _) S2 _ (.cons (r1.mono x2) r2)⟩
/-- f(k = v, ..): keywords alone -/
theorem pe_kw0 {ks : List Str} {sp : Sp} {kws : List Keyword} {tk : TA} {g : List Value → List Value → List Value} {gV : List V → List V → List V} (F : FnOk X.prog X.w X.K X.mg X.base CX0 k f fd ps sp) (hr : Room k X.A) (hg : Gl X x) (hm : X.mg x = some (.ref f)) (hk : PySem.W.keepIn X.K (.ref f) = true)
    (hb : KBn X.K fd ps 0 ks g gV) (hkw : PK X kws tk) (hall : (backToKw pos (keywordEach kws X.env)).all (·.1.isSome) = true := by rfl) (hks : (backToKw pos (keywordEach kws X.env)).filterMap (·.1) = ks := by rfl)
    (hdb : (x == ("__debug__" : Str)) = false := by decide) (hpl : ((backTo pos (starEach [] X.env)).any (·.1) || (backToKw pos (keywordEach kws X.env)).any (·.1.isNone)) = false := by rfl) :
    PE X (.Call (.Name x p) [] kws pos) (tCallN 0 ks.length sp gV E0 tNil tk) := by
  refine ⟨fun pins s σ H Q I h => wpAny_Call_Name_kw (ld_glob I hg hm ?_ hdb)⟩
  refine PySem.W.callWith_KW0 (h₀ := X.base) I.ok.mod.kin hk hall (thn (hkw.run pos pins s σ H _ I h) fun ws s2 ⟨zs, H2, I2, rz, l1, l2, q2⟩ => ⟨I2.kIn, ?_⟩) hpl
  rw [hks]
  exact run_fnN (us := []) F hr hb pass0 I2 .nil rz l1 l2 q2
theorem em_callK {kk : Nat} {ks : List Str} {kws : List Keyword} {mk : MM (List MV)} {n : Nat} {is : List Nat} {g : List Value → List Value → List Value} (F : FnOk X.prog X.w X.K X.mg X.base CX0 k f fd ps (spM X.K X.mg np fM)) (hn : ∀ xs h, (fM xs h).isSome = true → xs.length = np) (hr : Room k X.A) (hg : Gl X x) (hm : X.mg x = some (.ref f))
    (hk : PySem.W.keepIn X.K (.ref f) = true) (hb : KBn X.K fd ps n ks g (fun vs zs => pick is (vs ++ zs ++ dvs))) (hd2 : ∀ W, RVs X.K W dms dvs) (ha : AM X c (e :: es) m) (hkw : KM X c kws mk) (hkk : ks.length = kk := by rfl) (hall : (backToKw pos (keywordEach kws X.env)).all (·.1.isSome) = true := by rfl) (hks : (backToKw pos (keywordEach kws X.env)).filterMap (·.1) = ks := by rfl)
    (hdb : (x == ("__debug__" : Str)) = false := by decide) (he : starEach (e :: es) X.env = (false, eval e X.env) :: starEach es X.env := by rfl)
    (hpl : ((backTo pos (starEach (e :: es) X.env)).any (·.1) || (backToKw pos (keywordEach kws X.env)).any (·.1.isNone)) = false := by rfl) :
    EM X c (.Call (.Name x p) (e :: es) kws pos) (callKM fM n kk is dms m mk) := pe_wk (pe_callN F hr hg hm hk hb pass0 ha hkw hall hks hdb he hpl) fun σ H Q ⟨W, h, s, e, S, rs, p⟩ => by
  subst e
  subst hkk
  refine ⟨W, h, s, rfl, S, rs, p.bnd fun W1 h1 xs x1 S1 p1 vs r1 => ?_⟩
  refine ⟨W1, h1, s, rfl, S1, rs.mono x1, p1.bnd fun W2 h2 zs x2 S2 p2 ws r2 => ?_⟩
  by_cases q : xs.length = n ∧ zs.length = ks.length
  · rw [if_pos q] at p2
    refine ⟨by rw [← r1.length]; exact q.1, by rw [← r2.length]; exact q.2, W2, h2, _, rfl, S2, (((r1.mono x2).append r2).append (hd2 W2)).pick is, ?_, noex_ok p2⟩
    cases hf : fM (pick is (xs ++ zs ++ dms)) h2 with
    | none =>
      rw [hf] at p2
      exact p2.elim
    | some o => exact hn _ h2 (by rw [hf]; rfl)
  · rw [if_neg q] at p2
    exact p2.elim
theorem em_callK0 {kk : Nat} {ks : List Str} {kws : List Keyword} {mk : MM (List MV)} {is : List Nat} {g : List Value → List Value → List Value} (F : FnOk X.prog X.w X.K X.mg X.base CX0 k f fd ps (spM X.K X.mg np fM)) (hn : ∀ xs h, (fM xs h).isSome = true → xs.length = np) (hr : Room k X.A) (hg : Gl X x) (hm : X.mg x = some (.ref f))
    (hk : PySem.W.keepIn X.K (.ref f) = true) (hb : KBn X.K fd ps 0 ks g (fun vs zs => pick is (vs ++ zs ++ dvs))) (hd2 : ∀ W, RVs X.K W dms dvs) (hkw : KM X c kws mk) (hkk : ks.length = kk := by rfl) (hall : (backToKw pos (keywordEach kws X.env)).all (·.1.isSome) = true := by rfl) (hks : (backToKw pos (keywordEach kws X.env)).filterMap (·.1) = ks := by rfl)
    (hdb : (x == ("__debug__" : Str)) = false := by decide) (hpl : ((backTo pos (starEach [] X.env)).any (·.1) || (backToKw pos (keywordEach kws X.env)).any (·.1.isNone)) = false := by rfl) :
    EM X c (.Call (.Name x p) [] kws pos) (callKM fM 0 kk is dms nilA mk) := pe_wk (pe_kw0 F hr hg hm hk hb hkw hall hks hdb hpl) fun σ H Q ⟨W, h, s, e, S, rs, p⟩ => by
  subst e
  subst hkk
  have p' : Pst X.K c (CV X.K Q) W ((mk s h).bnd fun zs h2 => if ([] : List MV).length = 0 ∧ zs.length = ks.length then noex (fM (pick is ([] ++ zs ++ dms)) h2) else none) := p
  refine ⟨W, h, s, rfl, S, rs, p'.bnd fun W2 h2 zs x2 S2 p2 ws r2 => ?_⟩
  by_cases q : ([] : List MV).length = 0 ∧ zs.length = ks.length
  · rw [if_pos q] at p2
    refine ⟨rfl, by rw [← r2.length]; exact q.2, W2, h2, _, rfl, S2, (((RVs.nil).append r2).append (hd2 W2)).pick is, ?_, noex_ok p2⟩
    cases hf : fM (pick is ([] ++ zs ++ dms)) h2 with
    | none =>
      rw [hf] at p2
      exact p2.elim
    | some o => exact hn _ h2 (by rw [hf]; rfl)
  · rw [if_neg q] at p2
    exact p2.elim
end
/-! ### what is not written any more stands still -/
mutual
def frzV : Nat → MV → MH → Option (MV × MH)
  | 0, _, _ => none
  | n + 1, x, h => match x with
    | .ref l => match h[l]? with
      | some (.lst xs) => match frzL n xs h with
        | some (ys, h1) => some (.fls ys, h1.set l .dead)
        | none => none
      | _ => none
    | x => some (x, h)
def frzL : Nat → List MV → MH → Option (List MV × MH)
  | _, [], h => some ([], h)
  | n, x :: xs, h => match frzV n x h with
    | some (y, h1) => match frzL n xs h1 with
      | some (ys, h2) => some (y :: ys, h2)
      | none => none
    | none => none
end
@[simp ↓] def frzM (m : ME) : ME := fun s h => (m s h).bnd fun x h1 => match frzV 4 x h1 with
  | some (y, h2) => ok y h2
  | none => none
end Mi
set_option maxHeartbeats 2000000
/-! Mi: what stands still; built-ins; methods of lists; slices. -/
namespace Mi
open PySem L2
/-! ### standing still -/
structure Stood (W W' : Wd) : Prop where
  H : W'.H = W.H
  hid : W'.hid = W.hid
  f : ∀ j b, W'.f j = some b → W.f j = some b
  x : Ext W W'
theorem Stood.refl (W : Wd) : Stood W W := ⟨rfl, rfl, fun _ _ e => e, Ext.refl W⟩
theorem Stood.trans {W W1 W2 : Wd} (a : Stood W W1) (b : Stood W1 W2) : Stood W W2 := ⟨b.H.trans a.H, b.hid.trans a.hid, fun j z e => a.f j z (b.f j z e), a.x.trans b.x⟩
theorem Stood.kill (W : Wd) (l : Nat) : Stood W (W.kill l) := ⟨rfl, rfl, fun _ _ e => (Wd.kill_some e).2, Ext.kill W l⟩
section
variable {K : PySem.W.Frag}
mutual
theorem frzV_ok : ∀ (n : Nat) (x : MV) (h : MH) (y : MV) (h' : MH) (W : Wd) (v : V), frzV n x h = some (y, h') → Sim K W h → RV K W x v → ∃ W', Stood W W' ∧ Sim K W' h' ∧ RV K W' y v
  | 0, _, _, _, _, _, _, e, _, _ => by
    unfold frzV at e
    cases e
  | n + 1, x, h, y, h', W, v, e, S, r => by
    unfold frzV at e
    cases x with
    | ref l =>
      dsimp only at e
      cases hl : h[l]? with
      | none =>
        rw [hl] at e
        cases e
      | some o =>
        rw [hl] at e
        cases o with
        | dead => cases e
        | dK kvs => cases e
        | ins cn kvs => cases e
        | lst xs =>
          dsimp only at e
          cases hf : frzL n xs h with
          | none =>
            rw [hf] at e
            cases e
          | some q =>
            obtain ⟨ys, h1⟩ := q
            rw [hf] at e
            cases e
            obtain ⟨a, vs, rfl, ea, eH, t⟩ := S.lstAt hl r
            obtain ⟨W1, T, S1, t1⟩ := frzL_ok n xs h ys h1 W vs hf S t
            refine ⟨W1.kill l, T.trans (Stood.kill W1 l), S1.kill l, .fls ⟨fun j z => ?_, ?_⟩ ?_ (t1.mono (Ext.kill W1 l))⟩
            · obtain ⟨hj, e2⟩ := Wd.kill_some z
              exact hj (S.inj j l a (T.f j a e2) ea)
            · show ¬ W1.hid a
              rw [T.hid]
              exact S.nhid l a ea
            · show W1.H a = _
              rw [T.H]
              exact eH
    | _ =>
      cases e
      exact ⟨W, Stood.refl W, S, r⟩
theorem frzL_ok : ∀ (n : Nat) (xs : List MV) (h : MH) (ys : List MV) (h' : MH) (W : Wd) (vs : List V), frzL n xs h = some (ys, h') → Sim K W h → RVs K W xs vs → ∃ W', Stood W W' ∧ Sim K W' h' ∧ RVs K W' ys vs
  | n, [], h, ys, h', W, vs, e, S, r => by
    unfold frzL at e
    cases e
    exact ⟨W, Stood.refl W, S, r⟩
  | n, x :: xs, h, ys, h', W, _, e, S, .cons r t => by
    unfold frzL at e
    cases hf : frzV n x h with
    | none =>
      rw [hf] at e
      cases e
    | some q =>
      obtain ⟨y, h1⟩ := q
      rw [hf] at e
      dsimp only at e
      cases hf2 : frzL n xs h1 with
      | none =>
        rw [hf2] at e
        cases e
      | some q2 =>
        obtain ⟨zs, h2⟩ := q2
        rw [hf2] at e
        cases e
        obtain ⟨W1, T1, S1, r1⟩ := frzV_ok n x h y h1 W _ hf S r
        obtain ⟨W2, T2, S2, t2⟩ := frzL_ok n xs h1 zs h' W1 _ hf2 S1 (t.mono T1.x)
        exact ⟨W2, T1.trans T2, S2, .cons (r1.mono T2.x) t2⟩
end
end
section
variable {X : Cx} {c : XC} {e : Expr} {es : List Expr} {pos : Pos} {K : PySem.W.Frag} {W : Wd}
theorem em_frz {m : ME} (h : EM X c e m) : EM X c e (frzM m) := pe_wk h fun σ H Q ⟨W, h, s, e, S, rs, p⟩ => by
  subst e
  refine ⟨W, h, s, rfl, S, rs, p.bnd fun W1 h1 x x1 S1 p1 v r1 => ?_⟩
  cases hf : frzV 4 x h1 with
  | none =>
    rw [hf] at p1
    exact p1.elim
  | some q =>
    rw [hf] at p1
    obtain ⟨W2, T, S2, r2⟩ := frzV_ok 4 x h1 q.1 q.2 W1 v hf S1 r1
    rw [← T.H]
    exact p1 W2 T.x S2 v r2
/-! ### built-ins by values -/
def CallM (K : PySem.W.Frag) (c : XC) (r : List V → Hp → VK → Prop) (f : List MV → MH → Res MV) : Prop :=
  ∀ (W : Wd) (h : MH) (xs : List MV) (vs : List V) (Q : VK), Sim K W h → RVs K W xs vs → Pst K c (CV K Q) W (f xs h) → r vs W.H Q
/-- one that gives a new list -/
def CallL (K : PySem.W.Frag) (c : XC) (r : List V → Hp → VK → Prop) (f : List MV → MH → Res (List MV)) : Prop :=
  ∀ (W : Wd) (h : MH) (xs : List MV) (vs : List V) (Q : VK), Sim K W h → RVs K W xs vs → Pst K c (CL K Q) W (f xs h) → r vs W.H Q
@[simp ↓] def bltM (f : List MV → MH → Res MV) (a : MM (List MV)) : ME := fun s h => (a s h).bnd f
@[simp ↓] def bltL (f : List MV → MH → Res (List MV)) (a : MM (List MV)) : MM (List MV) := fun s h => (a s h).bnd f
theorem tCB_of {r : List V → Hp → VK → Prop} {f : List MV → MH → Res MV} {m : MM (List MV)} (ho : CallM K c r f) {σ : St} {H : Hp} {Q : VK} (q : tM K c (bltM f m) σ H Q) : tCB r (tMA K c m) σ H Q := by
  obtain ⟨W, h, s, e, S, rs, p⟩ := q
  subst e
  exact ⟨W, h, s, rfl, S, rs, p.bnd fun W1 h1 xs x1 S1 p1 vs r1 => ho W1 h1 xs vs Q S1 r1 p1⟩
theorem tCL_of {r : List V → Hp → VK → Prop} {f : List MV → MH → Res (List MV)} {m : MM (List MV)} (ho : CallL K c r f) {σ : St} {H : Hp} {Q : VK} (q : tML K c (bltL f m) σ H Q) : tCB r (tMA K c m) σ H Q := by
  obtain ⟨W, h, s, e, S, rs, p⟩ := q
  subst e
  exact ⟨W, h, s, rfl, S, rs, p.bnd fun W1 h1 xs x1 S1 p1 vs r1 => ho W1 h1 xs vs Q S1 r1 p1⟩
theorem em_blt {id : String} {x : Str} {p : Pos} {r : List V → Hp → VK → Prop} {f : List MV → MH → Res MV} {m : MM (List MV)} (hc : CallR X (.builtin id) r) (ho : CallM X.K c r f) (hg : Gl X x) (hm : X.mg x = none) (hv : bootBuiltins x = some (.builtin id)) (ha : AM X c (e :: es) m) (hn : x ≠ "__name__" := by decide) (hdb : (x == ("__debug__" : Str)) = false := by decide)
    (he : starEach (e :: es) X.env = (false, eval e X.env) :: starEach es X.env := by rfl) (hpl : (backTo pos (starEach es X.env)).any (·.1) = false := by rfl) : EM X c (.Call (.Name x p) (e :: es) [] pos) (bltM f m) := pe_wk (pe_callB hc hg hm hv ha hn hdb he hpl) fun σ H Q q => tCB_of ho q
theorem em_bty {T : String} {x : Str} {p : Pos} {r : List V → Hp → VK → Prop} {f : List MV → MH → Res MV} {m : MM (List MV)} (hc : CallR X (.type T) r) (ho : CallM X.K c r f) (hg : Gl X x) (hm : X.mg x = none) (hv : bootBuiltins x = some (.type T)) (ha : AM X c (e :: es) m) (hn : x ≠ "__name__" := by decide) (hdb : (x == ("__debug__" : Str)) = false := by decide)
    (he : starEach (e :: es) X.env = (false, eval e X.env) :: starEach es X.env := by rfl) (hpl : (backTo pos (starEach es X.env)).any (·.1) = false := by rfl) : EM X c (.Call (.Name x p) (e :: es) [] pos) (bltM f m) := pe_wk (pe_callTy hc hg hm hv ha hn hdb he hpl) fun σ H Q q => tCB_of ho q
theorem lm_blt {id : String} {x : Str} {p : Pos} {r : List V → Hp → VK → Prop} {f : List MV → MH → Res (List MV)} {m : MM (List MV)} (hc : CallR X (.builtin id) r) (ho : CallL X.K c r f) (hg : Gl X x) (hm : X.mg x = none) (hv : bootBuiltins x = some (.builtin id)) (ha : AM X c (e :: es) m) (hn : x ≠ "__name__" := by decide) (hdb : (x == ("__debug__" : Str)) = false := by decide)
    (he : starEach (e :: es) X.env = (false, eval e X.env) :: starEach es X.env := by rfl) (hpl : (backTo pos (starEach es X.env)).any (·.1) = false := by rfl) : LM X c (.Call (.Name x p) (e :: es) [] pos) (bltL f m) := pe_wk (pe_callB hc hg hm hv ha hn hdb he hpl) fun σ H Q q => tCL_of ho q
theorem lm_bty {T : String} {x : Str} {p : Pos} {r : List V → Hp → VK → Prop} {f : List MV → MH → Res (List MV)} {m : MM (List MV)} (hc : CallR X (.type T) r) (ho : CallL X.K c r f) (hg : Gl X x) (hm : X.mg x = none) (hv : bootBuiltins x = some (.type T)) (ha : AM X c (e :: es) m) (hn : x ≠ "__name__" := by decide) (hdb : (x == ("__debug__" : Str)) = false := by decide)
    (he : starEach (e :: es) X.env = (false, eval e X.env) :: starEach es X.env := by rfl) (hpl : (backTo pos (starEach es X.env)).any (·.1) = false := by rfl) : LM X c (.Call (.Name x p) (e :: es) [] pos) (bltL f m) := pe_wk (pe_callTy hc hg hm hv ha hn hdb he hpl) fun σ H Q q => tCL_of ho q
end
@[simp ↓] def lenF (xs : List MV) (h : MH) : Res MV := match xs with
  | [.str z] => if z.length ≤ lim then ok (.int z.length) h else none
  | [x] => match seqOf h x with
    | some ys => ok (.int ys.length) h
    | none => none
  | _ => none
@[simp ↓] def absF (xs : List MV) (h : MH) : Res MV := match xs with
  | [.int i] => ok (.int (if i < 0 then -i else i)) h
  | _ => none
@[simp ↓] def intF (xs : List MV) (h : MH) : Res MV := match xs with
  | [.int i] => ok (.int i) h
  | [.bl k] => ok (.int (if k then 1 else 0)) h
  | _ => none
@[simp ↓] def min2F (xs : List MV) (h : MH) : Res MV := match xs with
  | [.int i, .int j] => ok (.int (if j < i then j else i)) h
  | _ => none
@[simp ↓] def max2F (xs : List MV) (h : MH) : Res MV := match xs with
  | [.int i, .int j] => ok (.int (if j > i then j else i)) h
  | _ => none
@[simp ↓] def tupF (xs : List MV) (h : MH) : Res MV := match xs with
  | [.ktp _] => none
  | [x] => match seqOf h x with
    | some ys => ok (.tup ys) h
    | none => none
  | _ => none
@[simp ↓] def lstF (xs : List MV) (h : MH) : Res (List MV) := match xs with
  | [x] => seqOf h x |>.map fun ys => .ok ys h
  | _ => none
def intOf : MV → Option Int
  | .int i => some i
  | _ => none
def intsOf : List MV → Option (List Int)
  | [] => some []
  | x :: xs => match intOf x, intsOf xs with
    | some i, some is => some (i :: is)
    | _, _ => none
def blOf : MV → Option Bool
  | .bl b => some b
  | _ => none
def blsOf : List MV → Option (List Bool)
  | [] => some []
  | x :: xs => match blOf x, blsOf xs with
    | some i, some is => some (i :: is)
    | _, _ => none
def sumF (xs : List MV) (h : MH) : Res MV := match xs with
  | [x] => match (lstOf h x).bind intsOf with
    | some ns => ok (.int ns.sum) h
    | none => none
  | _ => none
def allF (xs : List MV) (h : MH) : Res MV := match xs with
  | [x] => match (lstOf h x).bind blsOf with
    | some ns => ok (.bl (ns.all id)) h
    | none => none
  | _ => none
def anyF (xs : List MV) (h : MH) : Res MV := match xs with
  | [x] => match (lstOf h x).bind blsOf with
    | some ns => ok (.bl (ns.any id)) h
    | none => none
  | _ => none
/-- the greatest, the least of a list of ints -/
def maxI : List Int → Int
  | [] => 0
  | [x] => x
  | x :: xs => if maxI xs < x then x else maxI xs
def minI : List Int → Int
  | [] => 0
  | [x] => x
  | x :: xs => if x < minI xs then x else minI xs
def maxF (xs : List MV) (h : MH) : Res MV := match xs with
  | [x] => match (lstOf h x).bind intsOf with
    | some ns => if 0 < ns.length then ok (.int (maxI ns)) h else none
    | none => none
  | _ => none
def minF (xs : List MV) (h : MH) : Res MV := match xs with
  | [x] => match (lstOf h x).bind intsOf with
    | some ns => if 0 < ns.length then ok (.int (minI ns)) h else none
    | none => none
  | _ => none
section
variable {X : Cx} {c : XC} {K : PySem.W.Frag} {W : Wd}
theorem ints_V : ∀ {xs : List MV} {vs : List V} {ns : List Int}, RVs K W xs vs → intsOf xs = some ns → vs = ns.map V.int ∧ xs = ns.map MV.int
  | [], _, _, .nil, e => by
    cases e
    exact ⟨rfl, rfl⟩
  | x :: xs, _, ns, .cons r t, e => by
    unfold intsOf at e
    cases x <;> first | (cases e; done) | skip
    rename_i i
    cases h : intsOf xs with
    | none =>
      simp only [intOf, h] at e
      cases e
    | some is =>
      simp only [intOf, h] at e
      cases e
      obtain ⟨e1, e2⟩ := ints_V t h
      subst e1 e2
      rw [rv_int r]
      exact ⟨rfl, rfl⟩
theorem bls_V : ∀ {xs : List MV} {vs : List V} {ns : List Bool}, RVs K W xs vs → blsOf xs = some ns → vs = ns.map V.bl ∧ xs = ns.map MV.bl
  | [], _, _, .nil, e => by
    cases e
    exact ⟨rfl, rfl⟩
  | x :: xs, _, ns, .cons r t, e => by
    unfold blsOf at e
    cases x <;> first | (cases e; done) | skip
    rename_i i
    cases h : blsOf xs with
    | none =>
      simp only [blOf, h] at e
      cases e
    | some is =>
      simp only [blOf, h] at e
      cases e
      obtain ⟨e1, e2⟩ := bls_V t h
      subst e1 e2
      rw [rv_bl r]
      exact ⟨rfl, rfl⟩
theorem lst_bind {β : Type} {h : MH} {x : MV} {v : V} {f : List MV → Option β} {b : β} (S : Sim K W h) (r : RV K W x v) (e : (lstOf h x).bind f = some b) : ∃ p vs xs, v = .ref p ∧ SqL K W.H p vs ∧ RVs K W xs vs ∧ f xs = some b := by
  cases hl : lstOf h x with
  | none =>
    rw [hl] at e
    cases e
  | some xs =>
    rw [hl] at e
    obtain ⟨p, vs, e1, e2, t⟩ := lst_sq S r hl
    exact ⟨p, vs, xs, e1, e2, t, e⟩
theorem cm_len : CallM K c (fun xs H Q => ∃ x n, xs = [x] ∧ LenV K x H n ∧ Q (.int n) H) lenF := fun W h xs vs Q S r p => by
  unfold lenF at p
  split at p
  · rename_i z
    obtain ⟨v, rfl, r1⟩ := rvs_one r
    by_cases q : z.length ≤ lim
    · rw [if_pos q] at p
      exact ⟨v, z.length, rfl, by rw [rv_str r1]; exact ⟨lim_line q, rfl⟩, Pst.now p S _ (.int _)⟩
    · rw [if_neg q] at p
      exact p.elim
  · rename_i x _
    obtain ⟨v, rfl, r1⟩ := rvs_one r
    cases e : seqOf h x with
    | none =>
      rw [e] at p
      exact p.elim
    | some ys =>
      rw [e] at p
      obtain ⟨a, ws, rfl, hq, t⟩ := seq_sq S r1 e
      refine ⟨_, ys.length, rfl, ?_, Pst.now p S _ (.int _)⟩
      rcases hq with hq | hq
      · exact .inl ⟨ws, hq, t.length⟩
      · exact .inr ⟨ws, hq, t.length⟩
  · exact p.elim
theorem cm_abs : CallM K c (fun xs H Q => ∃ i, xs = [.int i] ∧ Q (.int (if i < 0 then -i else i)) H) absF := fun W h xs vs Q S r p => by
  unfold absF at p
  split at p
  · rename_i i
    obtain ⟨v, rfl, r1⟩ := rvs_one r
    exact ⟨i, by rw [rv_int r1], Pst.now p S _ (.int _)⟩
  · exact p.elim
theorem cm_int : CallM K c (fun xs H Q => (∃ i, xs = [.int i] ∧ Q (.int i) H) ∨ ∃ k, xs = [.bl k] ∧ Q (.int (if k then 1 else 0)) H) intF := fun W h xs vs Q S r p => by
  unfold intF at p
  split at p
  · rename_i i
    obtain ⟨v, rfl, r1⟩ := rvs_one r
    exact .inl ⟨i, by rw [rv_int r1], Pst.now p S _ (.int _)⟩
  · rename_i i
    obtain ⟨v, rfl, r1⟩ := rvs_one r
    exact .inr ⟨i, by rw [rv_bl r1], Pst.now p S _ (.int _)⟩
  · exact p.elim
theorem cm_min2 : CallM K c (fun xs H Q => ∃ i j, xs = [.int i, .int j] ∧ Q (.int (if j < i then j else i)) H) min2F := fun W h xs vs Q S r p => by
  unfold min2F at p
  split at p
  · rename_i i j
    obtain ⟨v, w, rfl, r1, r2⟩ := rvs_two r
    exact ⟨i, j, by rw [rv_int r1, rv_int r2], Pst.now p S _ (.int _)⟩
  · exact p.elim
theorem cm_max2 : CallM K c (fun xs H Q => ∃ i j, xs = [.int i, .int j] ∧ Q (.int (if j > i then j else i)) H) max2F := fun W h xs vs Q S r p => by
  unfold max2F at p
  split at p
  · rename_i i j
    obtain ⟨v, w, rfl, r1, r2⟩ := rvs_two r
    exact ⟨i, j, by rw [rv_int r1, rv_int r2], Pst.now p S _ (.int _)⟩
  · exact p.elim
theorem cm_tup : CallM K c (fun xs H Q => ∃ p ys, xs = [.ref p] ∧ ((SqL K H p ys ∧ ∀ l, H l = none → Q (.ref l) (upd H l (.tup ys))) ∨ (SqT K H p ys ∧ Q (.ref p) H))) tupF := fun W h xs vs Q S r p => by
  unfold tupF at p
  split at p
  · exact p.elim
  · rename_i x hk
    obtain ⟨v, rfl, r1⟩ := rvs_one r
    cases e : seqOf h x with
    | none =>
      rw [e] at p
      exact p.elim
    | some ys =>
      rw [e] at p
      cases x with
      | tup zs =>
        cases e
        obtain ⟨a, ws, rfl, hq, t⟩ := tup_sq r1
        exact ⟨a, ws, rfl, .inr ⟨hq, Pst.now p S _ r1⟩⟩
      | ktp zs => exact absurd rfl (hk zs)
      | _ =>
        obtain ⟨a, ws, rfl, hq, t⟩ := lst_sq S r1 e
        exact ⟨a, ws, rfl, .inl ⟨hq, fun l hl => p (W.put l (.tup ws)) (Ext.put S hl) (S.put hl) (.ref l) (.tup (S.fresh hl) upd_same (t.mono (Ext.put S hl)))⟩⟩
  · exact p.elim
theorem cl_lst : CallL K c (fun xs H Q => ∃ p ys, xs = [.ref p] ∧ (SqL K H p ys ∨ SqT K H p ys) ∧ ∀ l, H l = none → Q (.ref l) (upd H l (.lst ys))) lstF := fun W h xs vs Q S r p => by
  unfold lstF at p
  split at p
  · rename_i x
    obtain ⟨v, rfl, r1⟩ := rvs_one r
    cases e : seqOf h x with
    | none =>
      rw [e] at p
      exact p.elim
    | some ys =>
      rw [e] at p
      obtain ⟨a, ws, rfl, hq, t⟩ := seq_sq S r1 e
      exact ⟨a, ws, rfl, hq, fun l hl => p W (Ext.refl W) S ws l t hl⟩
  · exact p.elim
theorem cm_sum : CallM K c (rSum K) sumF := fun W h xs vs Q S r p => by
  unfold sumF at p
  split at p
  · rename_i x
    obtain ⟨v, rfl, r1⟩ := rvs_one r
    cases e : (lstOf h x).bind intsOf with
    | none =>
      rw [e] at p
      exact p.elim
    | some ns =>
      rw [e] at p
      obtain ⟨a, ws, ys, rfl, hq, t, e2⟩ := lst_bind S r1 e
      exact ⟨a, ns, rfl, by rw [← (ints_V t e2).1]; exact hq, Pst.now p S _ (.int _)⟩
  · exact p.elim
theorem cm_all : CallM K c (rAll K) allF := fun W h xs vs Q S r p => by
  unfold allF at p
  split at p
  · rename_i x
    obtain ⟨v, rfl, r1⟩ := rvs_one r
    cases e : (lstOf h x).bind blsOf with
    | none =>
      rw [e] at p
      exact p.elim
    | some ns =>
      rw [e] at p
      obtain ⟨a, ws, ys, rfl, hq, t, e2⟩ := lst_bind S r1 e
      exact ⟨a, ns, rfl, by rw [← (bls_V t e2).1]; exact hq, Pst.now p S _ (.bl _)⟩
  · exact p.elim
theorem cm_any : CallM K c (rAny K) anyF := fun W h xs vs Q S r p => by
  unfold anyF at p
  split at p
  · rename_i x
    obtain ⟨v, rfl, r1⟩ := rvs_one r
    cases e : (lstOf h x).bind blsOf with
    | none =>
      rw [e] at p
      exact p.elim
    | some ns =>
      rw [e] at p
      obtain ⟨a, ws, ys, rfl, hq, t, e2⟩ := lst_bind S r1 e
      exact ⟨a, ns, rfl, by rw [← (bls_V t e2).1]; exact hq, Pst.now p S _ (.bl _)⟩
  · exact p.elim
theorem maxI_of : ∀ {ns : List Int} {m : Int}, m ∈ ns → (∀ y, y ∈ ns → y ≤ m) → maxI ns = m
  | [], _, h, _ => by cases h
  | [x], m, h, _ => by
    have := List.mem_singleton.mp h
    exact this.symm
  | x :: y :: ys, m, h, hm => by
    have hx := hm x (List.mem_cons_self ..)
    show (if maxI (y :: ys) < x then x else maxI (y :: ys)) = m
    by_cases hin : m ∈ y :: ys
    · rw [maxI_of hin fun z hz => hm z (List.mem_cons_of_mem _ hz)]
      rw [if_neg (by omega)]
    · have e : m = x := (List.mem_cons.mp h).resolve_right hin
      have ne : ∃ k, k ∈ y :: ys ∧ ∀ z, z ∈ y :: ys → z ≤ k := by
        have : ∀ (l : List Int), l ≠ [] → ∃ k, k ∈ l ∧ ∀ z, z ∈ l → z ≤ k := fun l => by
          induction l with
          | nil => exact fun h => absurd rfl h
          | cons a l ih =>
            intro _
            cases l with
            | nil => exact ⟨a, List.mem_cons_self .., fun z hz => by rw [List.mem_singleton.mp hz]; exact Int.le_refl _⟩
            | cons b l =>
              obtain ⟨k, h1, h2⟩ := ih (by intro z; cases z)
              by_cases hk : a ≤ k
              · exact ⟨k, List.mem_cons_of_mem _ h1, fun z hz => (List.mem_cons.mp hz).elim (fun q => by rw [q]; exact hk) (h2 z)⟩
              · exact ⟨a, List.mem_cons_self .., fun z hz => (List.mem_cons.mp hz).elim (fun q => by rw [q]; exact Int.le_refl _) fun q => by have := h2 z q; omega⟩
        exact this _ (by intro z; cases z)
      obtain ⟨k, h1, h2⟩ := ne
      rw [maxI_of h1 h2]
      have : k ≤ m := hm k (List.mem_cons_of_mem _ h1)
      by_cases hk : k < x
      · rw [if_pos hk, e]
      · rw [if_neg hk]
        omega
theorem cm_max : CallM K c (rMax K) maxF := fun W h xs vs Q S r p => by
  unfold maxF at p
  split at p
  · rename_i x
    obtain ⟨v, rfl, r1⟩ := rvs_one r
    cases e : (lstOf h x).bind intsOf with
    | none =>
      rw [e] at p
      exact p.elim
    | some ns =>
      rw [e] at p
      dsimp only at p
      by_cases q : 0 < ns.length
      · rw [if_pos q] at p
        obtain ⟨a, ws, ys, rfl, hq, t, e2⟩ := lst_bind S r1 e
        exact ⟨a, ns, rfl, by rw [← (ints_V t e2).1]; exact hq, q, fun m h1 h2 => by rw [← maxI_of h1 h2]; exact Pst.now p S _ (.int _)⟩
      · rw [if_neg q] at p
        exact p.elim
  · exact p.elim
theorem minI_of : ∀ {ns : List Int} {m : Int}, m ∈ ns → (∀ y, y ∈ ns → m ≤ y) → minI ns = m
  | [], _, h, _ => by cases h
  | [x], m, h, _ => by
    have := List.mem_singleton.mp h
    exact this.symm
  | x :: y :: ys, m, h, hm => by
    have hx := hm x (List.mem_cons_self ..)
    show (if x < minI (y :: ys) then x else minI (y :: ys)) = m
    by_cases hin : m ∈ y :: ys
    · rw [minI_of hin fun z hz => hm z (List.mem_cons_of_mem _ hz)]
      by_cases hk : x < m
      · omega
      · rw [if_neg hk]
    · have e : m = x := (List.mem_cons.mp h).resolve_right hin
      have ne : ∃ k, k ∈ y :: ys ∧ ∀ z, z ∈ y :: ys → k ≤ z := by
        have : ∀ (l : List Int), l ≠ [] → ∃ k, k ∈ l ∧ ∀ z, z ∈ l → k ≤ z := fun l => by
          induction l with
          | nil => exact fun h => absurd rfl h
          | cons a l ih =>
            intro _
            cases l with
            | nil => exact ⟨a, List.mem_cons_self .., fun z hz => by rw [List.mem_singleton.mp hz]; exact Int.le_refl _⟩
            | cons b l =>
              obtain ⟨k, h1, h2⟩ := ih (by intro z; cases z)
              by_cases hk : k ≤ a
              · exact ⟨k, List.mem_cons_of_mem _ h1, fun z hz => (List.mem_cons.mp hz).elim (fun q => by rw [q]; exact hk) (h2 z)⟩
              · exact ⟨a, List.mem_cons_self .., fun z hz => (List.mem_cons.mp hz).elim (fun q => by rw [q]; exact Int.le_refl _) fun q => by have := h2 z q; omega⟩
        exact this _ (by intro z; cases z)
      obtain ⟨k, h1, h2⟩ := ne
      rw [minI_of h1 h2]
      have : m ≤ k := hm k (List.mem_cons_of_mem _ h1)
      by_cases hk : x < k
      · rw [if_pos hk, e]
      · rw [if_neg hk]
        omega
theorem cm_min : CallM K c (rMin K) minF := fun W h xs vs Q S r p => by
  unfold minF at p
  split at p
  · rename_i x
    obtain ⟨v, rfl, r1⟩ := rvs_one r
    cases e : (lstOf h x).bind intsOf with
    | none =>
      rw [e] at p
      exact p.elim
    | some ns =>
      rw [e] at p
      dsimp only at p
      by_cases q : 0 < ns.length
      · rw [if_pos q] at p
        obtain ⟨a, ws, ys, rfl, hq, t, e2⟩ := lst_bind S r1 e
        exact ⟨a, ns, rfl, by rw [← (ints_V t e2).1]; exact hq, q, fun m h1 h2 => by rw [← minI_of h1 h2]; exact Pst.now p S _ (.int _)⟩
      · rw [if_neg q] at p
        exact p.elim
  · exact p.elim
end
/-! ### isinstance -/
inductive Ty where
  | non | bool | int | str | tuple | list | dict
  deriving DecidableEq
def Ty.nm : Ty → String
  | .non => "NoneType"
  | .bool => "bool"
  | .int => "int"
  | .str => "str"
  | .tuple => "tuple"
  | .list => "list"
  | .dict => "dict"
@[simp ↓] def tyOf (h : MH) : MV → Option Ty
  | .non => some .non
  | .bl _ => some .bool
  | .int _ => some .int
  | .str _ => some .str
  | .tup _ => some .tuple
  | .ktp _ => some .tuple
  | .fls _ => some .list
  | .frz _ => some .list
  | .ref l => match h[l]? with
    | some (.lst _) => some .list
    | some (.dK _) => some .dict
    | _ => none
  | .exc .. => none
def Ty.le (a b : Ty) : Bool := decide (a = b) || (decide (a = .bool) && decide (b = .int))
@[simp ↓] def isiM (ts : List Ty) (m : ME) : ME := fun s h => (m s h).bnd fun x h1 => match tyOf h1 x with
  | some t => ok (.bl (ts.any fun u => t.le u)) h1
  | none => none
section
variable {X : Cx} {c : XC} {K : PySem.W.Frag} {W : Wd} {e : Expr} {pos p p2 : Pos}
theorem kit_le (a b : Ty) (hb : b ≠ .non) : PySem.W.kitOne K (.type a.nm) (.type b.nm) = some (a.le b) := by
  refine kit_ty ?_
  cases a <;> cases b <;> first | exact absurd rfl hb | decide +kernel
theorem ty_V {h : MH} {x : MV} {v : V} {t : Ty} (S : Sim K W h) (r : RV K W x v) (e : tyOf h x = some t) : TyX K W.H v (.type t.nm) := by
  cases r with
  | non =>
    cases e
    exact .base .non
  | bl b =>
    cases e
    exact .base (.bl b)
  | int i =>
    cases e
    exact .base (.int i)
  | str z =>
    cases e
    exact .base (.str z)
  | tup s q t =>
    cases e
    exact .base (.tup q)
  | tupK q t =>
    cases e
    rcases q fun _ => none with (q | ⟨o, q⟩) | ⟨o, its, n, q, hc, _⟩
    · cases q
    · cases q
    · exact .kTuple q hc
  | exc0 => cases e
  | excD => cases e
  | fls s q t =>
    cases e
    exact .base (.lst q)
  | frz s q t =>
    cases e
    rcases q with q | ⟨o, q⟩
    · exact .base (.lst q)
    · exact .base (.frz q)
  | frzK q t =>
    cases e
    rcases q fun _ => none with (q | ⟨o, q⟩) | ⟨o, its, n, q, hc, _⟩
    · cases q
    · cases q
    · exact .kList q hc
  | @ref l a lt q =>
    have e' : (match h[l]? with | some (.lst _) => some Ty.list | some (.dK _) => some Ty.dict | _ => none) = some t := e
    cases hl : h[l]? with
    | none =>
      rw [hl] at e'
      cases e'
    | some o =>
      rw [hl] at e'
      cases o with
      | dead => cases e'
      | lst xs =>
        cases e'
        obtain ⟨b, vs, e1, e2, e3, _⟩ := S.lstAt hl (.ref lt q)
        cases e1
        exact .base (.lst e3)
      | dK kvs =>
        cases e'
        obtain ⟨b, e1, e2, kws, e3, _⟩ := S.at hl (by intro z; cases z) (.ref lt q)
        cases e1
        exact .base (.dK e3)
      | ins cn kvs => cases e'
/-- isinstance(e, T) -/
theorem em_isi {m : ME} {T : Expr} (u : Ty) (hu : u ≠ .non) (hg : Gl X "isinstance") (hm : X.mg "isinstance" = none) (hT : PE X T (tC (.ty u.nm))) (he : EM X c e m) (hs : starEach [e, T] X.env = (false, eval e X.env) :: starEach [T] X.env := by rfl) (hs2 : starEach [T] X.env = (false, eval T X.env) :: starEach [] X.env := by rfl)
    (hpl : (backTo pos (starEach [T] X.env)).any (·.1) = false := by rfl) : EM X c (.Call (.Name "isinstance" p) [e, T] [] pos) (isiM [u] m) :=
  pe_wk (pe_callB call_isi hg hm PyProof.Rows.boot_isinstance (pa_cons he (pa_cons hT pa_nil hs2) hs) (by decide) (by decide) hs hpl) fun σ H Q ⟨W, h, s, e, S, rs, p⟩ => by
    subst e
    refine ⟨W, h, s, rfl, S, rs, p.bnd fun W1 h1 x x1 S1 p1 v r1 => ?_⟩
    cases et : tyOf h1 x with
    | none =>
      rw [et] at p1
      exact p1.elim
    | some t =>
      rw [et] at p1
      refine ⟨v, .ty u.nm, .type t.nm, .type u.nm, t.le u, rfl, .ty _, ty_V S1 r1 et, kit_le t u hu, ?_⟩
      have e2 : ([u].any fun u => t.le u) = t.le u := by
        rw [List.any_cons, List.any_nil, Bool.or_false]
      rw [← e2]
      exact Pst.now p1 S1 _ (.bl _)
theorem kit_any {t : Ty} : ∀ (us : List Ty), (∀ u ∈ us, u ≠ .non) → PySem.W.kitAny K (.type t.nm) (us.map fun u => Value.type u.nm) = some (us.any fun u => t.le u)
  | [], _ => rfl
  | u :: us, h => by
    rw [List.map_cons, List.any_cons]
    refine kitAny_cons (kit_le t u (h u (List.mem_cons_self ..))) (fun e => ?_) fun e => ?_
    · rw [e, Bool.false_or]
      exact kit_any us fun z hz => h z (List.mem_cons_of_mem _ hz)
    · rw [e, Bool.true_or]
/-- isinstance(e, (T, U)) -/
theorem em_isi2 {m : ME} {T U : Expr} {k : Nat} (t u : Ty) (ht : t ≠ .non) (hu : u ≠ .non) (hg : Gl X "isinstance") (hm : X.mg "isinstance" = none) (hT : PE X T (tC (.ty t.nm))) (hU : PE X U (tC (.ty u.nm))) (he : EM X c e m) (hs : starEach [e, .Tuple [T, U] k p2] X.env = (false, eval e X.env) :: starEach [.Tuple [T, U] k p2] X.env := by rfl)
    (hs2 : starEach [.Tuple [T, U] k p2] X.env = (false, eval (.Tuple [T, U] k p2) X.env) :: starEach [] X.env := by rfl) (ht1 : starEach [T, U] X.env = (false, eval T X.env) :: starEach [U] X.env := by rfl) (hu1 : starEach [U] X.env = (false, eval U X.env) :: starEach [] X.env := by rfl)
    (hpl : (backTo pos (starEach [.Tuple [T, U] k p2] X.env)).any (·.1) = false := by rfl) : EM X c (.Call (.Name "isinstance" p) [e, .Tuple [T, U] k p2] [] pos) (isiM [t, u] m) :=
  pe_wk (pe_callB call_isiT hg hm PyProof.Rows.boot_isinstance (pa_cons he (pa_cons (pe_tup (pa_cons hT (pa_cons hU pa_nil hu1) ht1)) pa_nil hs2) hs) (by decide) (by decide) hs hpl) fun σ H Q ⟨W, h, s, e, S, rs, p⟩ => by
    subst e
    refine ⟨W, h, s, rfl, S, rs, p.bnd fun W1 h1 x x1 S1 p1 v r1 => ?_⟩
    refine ⟨by show 2 ≤ sizeLine; rw [sizeLine_eq]; decide, fun q hq => ?_⟩
    have S2 : Sim X.K (W1.put q (.tup [.ty t.nm, .ty u.nm])) h1 := S1.put hq
    have x2 : Ext W1 (W1.put q (.tup [.ty t.nm, .ty u.nm])) := Ext.put S1 hq
    cases et : tyOf h1 x with
    | none =>
      rw [et] at p1
      exact p1.elim
    | some ty =>
      rw [et] at p1
      refine ⟨v, q, _, .type ty.nm, [.type t.nm, .type u.nm], [t, u].any fun u => ty.le u, rfl, upd_same, .cons (.ty _) (.cons (.ty _) .nil), ty_V S2 (r1.mono x2) et, kit_any [t, u] (fun z hz => ?_), p1 _ x2 S2 _ (.bl _)⟩
      rcases List.mem_cons.mp hz with e | e
      · rw [e]
        exact ht
      · rw [List.mem_singleton.mp e]
        exact hu
end
/-! ### methods of lists -/
@[simp ↓] def isL (h : MH) (x : MV) : Bool := match x with
  | .ref l => match h[l]? with
    | some (.lst _) => true
    | _ => false
  | _ => false
@[simp ↓] def mthM (f : MV → List MV → MH → Res MV) (o : ME) (a : MM (List MV)) : ME := fun s h => (o s h).bnd fun x h1 => if isL h1 x = true then (a s h1).bnd fun ys h2 => f x ys h2 else none
@[simp ↓] def appF (x : MV) (ys : List MV) (h : MH) : Res MV := match x, ys with
  | .ref l, [y] => match h[l]? with
    | some (.lst xs) => if xs.length < lim then ok .non (h.set l (.lst (xs ++ [y]))) else none
    | _ => none
  | _, _ => none
@[simp ↓] def popF (x : MV) (ys : List MV) (h : MH) : Res MV := match x, ys with
  | .ref l, [] => match h[l]? with
    | some (.lst xs) => match xs[xs.length - 1]? with
      | some y => ok y (h.set l (.lst xs.dropLast))
      | none => none
    | _ => none
  | _, _ => none
@[simp ↓] def popAtF (x : MV) (ys : List MV) (h : MH) : Res MV := match x, ys with
  | .ref l, [.int i] => match h[l]? with
    | some (.lst xs) => match ixN xs.length i with
      | some k => match xs[k]? with
        | some y => if xs.length ≤ lim then ok y (h.set l (.lst (xs.eraseIdx k))) else none
        | none => none
      | none => none
    | _ => none
  | _, _ => none
@[simp ↓] def extF (x : MV) (ys : List MV) (h : MH) : Res MV := match x, ys with
  | .ref l, [.ref k] => match h[l]?, h[k]? with
    | some (.lst xs), some (.lst zs) => if xs.length + zs.length ≤ lim then ok .non (h.set l (.lst (xs ++ zs))) else none
    | _, _ => none
  | .ref l, [.fls zs] => match h[l]? with
    | some (.lst xs) => if xs.length + zs.length ≤ lim then ok .non (h.set l (.lst (xs ++ zs))) else none
    | _ => none
  | _, _ => none
@[simp ↓] def revF (x : MV) (ys : List MV) (h : MH) : Res MV := match x, ys with
  | .ref l, [] => match h[l]? with
    | some (.lst xs) => ok .non (h.set l (.lst xs.reverse))
    | _ => none
  | _, _ => none
def MthM (K : PySem.W.Frag) (c : XC) (r : V → List V → Hp → VK → Prop) (f : MV → List MV → MH → Res MV) : Prop :=
  ∀ (W : Wd) (h : MH) (x : MV) (xs : List MV) (v : V) (vs : List V) (Q : VK), Sim K W h → RV K W x v → RVs K W xs vs → Pst K c (CV K Q) W (f x xs h) → r v vs W.H Q
section
variable {X : Cx} {c : XC} {K : PySem.W.Frag} {W : Wd} {o e : Expr} {es : List Expr}
theorem isL_ty {h : MH} {x : MV} {v : V} (S : Sim K W h) (r : RV K W x v) (e : isL h x = true) : tyV K "list" v W.H := by
  unfold isL at e
  cases x <;> first | (cases e; done) | skip
  rename_i l
  dsimp only at e
  cases hl : h[l]? with
  | none =>
    rw [hl] at e
    cases e
  | some o =>
    rw [hl] at e
    cases o with
    | lst xs =>
      obtain ⟨a, vs, rfl, e2, e3, t⟩ := S.lstAt hl r
      exact .inl ⟨rfl, vs, .inl (.inl e3)⟩
    | dead => cases e
    | dK kvs => cases e
    | ins cn kvs => cases e
theorem em_mth {name : Str} {apos cpos : Pos} {r : V → List V → Hp → VK → Prop} {f : MV → List MV → MH → Res MV} {mo : ME} {ma : MM (List MV)} (hf : MthM X.K c r f)
    (h : PE X (.Call (.Attribute o name apos) (e :: es) [] cpos) (tBM X.K "list" r (tM X.K c mo) (tMA X.K c ma))) : EM X c (.Call (.Attribute o name apos) (e :: es) [] cpos) (mthM f mo ma) := pe_wk h fun σ H Q ⟨W, h, s, e, S, rs, p⟩ => by
  subst e
  refine ⟨W, h, s, rfl, S, rs, p.bnd fun W1 h1 x x1 S1 p1 v r1 => ?_⟩
  by_cases q : isL h1 x = true
  · rw [if_pos q] at p1
    exact ⟨isL_ty S1 r1 q, W1, h1, s, rfl, S1, rs.mono x1, p1.bnd fun W2 h2 ys x2 S2 p2 vs r2 => hf W2 h2 x ys v vs Q S2 (r1.mono x2) r2 p2⟩
  · rw [if_neg q] at p1
    exact p1.elim
theorem em_mth0 {name : Str} {apos cpos : Pos} {r : V → List V → Hp → VK → Prop} {f : MV → List MV → MH → Res MV} {mo : ME} (hf : MthM X.K c r f)
    (h : PE X (.Call (.Attribute o name apos) [] [] cpos) (tBM0 X.K "list" r (tM X.K c mo))) : EM X c (.Call (.Attribute o name apos) [] [] cpos) (mthM f mo nilA) := pe_wk h fun σ H Q ⟨W, h, s, e, S, rs, p⟩ => by
  subst e
  refine ⟨W, h, s, rfl, S, rs, p.bnd fun W1 h1 x x1 S1 p1 v r1 => ?_⟩
  by_cases q : isL h1 x = true
  · rw [if_pos q] at p1
    exact ⟨isL_ty S1 r1 q, hf W1 h1 x [] v [] Q S1 r1 .nil p1⟩
  · rw [if_neg q] at p1
    exact p1.elim
theorem mm_app : MthM K c rAppend appF := fun W h x ys v vs Q S r rs p => by
  unfold appF at p
  split at p
  · rename_i l y
    obtain ⟨u, rfl, ry⟩ := rvs_one rs
    cases hl : h[l]? with
    | none =>
      rw [hl] at p
      exact p.elim
    | some o =>
      rw [hl] at p
      cases o with
      | dead => exact p.elim
      | dK kvs => exact p.elim
      | ins cn kvs => exact p.elim
      | lst xs =>
        dsimp only at p
        by_cases q : xs.length < lim
        · rw [if_pos q] at p
          obtain ⟨a, ws, rfl, e2, e3, t⟩ := S.lstAt hl r
          refine ⟨a, ws, u, rfl, rfl, e3, Nat.lt_of_lt_of_le (by rw [← t.length]; exact q) (lim_line (Nat.le_refl _)), ?_⟩
          exact p (W.wr a (.lst (ws ++ [u]))) (Ext.wr S e2) (S.wr e2 ⟨_, upd_same, ((t.append (.one ry)).mono (Ext.wr S e2))⟩) _ .non
        · rw [if_neg q] at p
          exact p.elim
  · exact p.elim
theorem RVs.dropLast {xs : List MV} {vs : List V} (t : RVs K W xs vs) : RVs K W xs.dropLast vs.dropLast := by
  rw [List.dropLast_eq_take, List.dropLast_eq_take, ← t.length]
  exact t.take _
theorem mm_pop : MthM K c rPop popF := fun W h x ys v vs Q S r rs p => by
  unfold popF at p
  split at p
  · rename_i l
    cases rs
    cases hl : h[l]? with
    | none =>
      rw [hl] at p
      exact p.elim
    | some o =>
      rw [hl] at p
      cases o with
      | dead => exact p.elim
      | dK kvs => exact p.elim
      | ins cn kvs => exact p.elim
      | lst xs =>
        dsimp only at p
        cases hy : xs[xs.length - 1]? with
        | none =>
          rw [hy] at p
          exact p.elim
        | some y =>
          rw [hy] at p
          obtain ⟨a, ws, rfl, e2, e3, t⟩ := S.lstAt hl r
          obtain ⟨u, hu, ru⟩ := t.get hy
          refine ⟨a, ws, u, rfl, rfl, e3, by rw [← t.length]; exact hu, ?_⟩
          exact p (W.wr a (.lst ws.dropLast)) (Ext.wr S e2) (S.wr e2 ⟨_, upd_same, t.dropLast.mono (Ext.wr S e2)⟩) u (ru.mono (Ext.wr S e2))
  · exact p.elim
theorem mm_popAt : MthM K c rPopAt popAtF := fun W h x ys v vs Q S r rs p => by
  unfold popAtF at p
  split at p
  · rename_i l i
    obtain ⟨w, rfl, ri⟩ := rvs_one rs
    cases hl : h[l]? with
    | none =>
      rw [hl] at p
      exact p.elim
    | some o =>
      rw [hl] at p
      cases o with
      | dead => exact p.elim
      | dK kvs => exact p.elim
      | ins cn kvs => exact p.elim
      | lst xs =>
        dsimp only at p
        cases hk : ixN xs.length i with
        | none =>
          rw [hk] at p
          exact p.elim
        | some k =>
          rw [hk] at p
          dsimp only at p
          cases hy : xs[k]? with
          | none =>
            rw [hy] at p
            exact p.elim
          | some y =>
            rw [hy] at p
            dsimp only at p
            by_cases q : xs.length ≤ lim
            · rw [if_pos q] at p
              obtain ⟨a, ws, rfl, e2, e3, t⟩ := S.lstAt hl r
              obtain ⟨u, hu, ru⟩ := t.get hy
              obtain ⟨h1, h2, h3, h4⟩ := ixN_seq hk
              have hlim : lim = 1000000 := rfl
              refine ⟨a, ws, i, k, u, rfl, by rw [rv_int ri], e3, by omega, by omega, by rw [← t.length]; exact h1, hu, ?_⟩
              exact p (W.wr a (.lst (ws.eraseIdx k))) (Ext.wr S e2) (S.wr e2 ⟨_, upd_same, (t.eraseIdx k).mono (Ext.wr S e2)⟩) u (ru.mono (Ext.wr S e2))
            · rw [if_neg q] at p
              exact p.elim
  · exact p.elim
theorem mm_ext : MthM K c rExtend extF := fun W h x ys v vs Q S r rs p => by
  unfold extF at p
  split at p
  · rename_i l k
    obtain ⟨w, rfl, ri⟩ := rvs_one rs
    cases hl : h[l]? with
    | none =>
      simp only [hl] at p
      exact p.elim
    | some o =>
      cases hk : h[k]? with
      | none =>
        cases o <;> (simp only [hl, hk] at p; exact p.elim)
      | some o2 =>
        cases o with
        | dead =>
          simp only [hl, hk] at p
          exact p.elim
        | dK kvs =>
          simp only [hl, hk] at p
          exact p.elim
        | ins cn kvs =>
          simp only [hl, hk] at p
          exact p.elim
        | lst xs =>
          cases o2 with
          | dead =>
            simp only [hl, hk] at p
            exact p.elim
          | dK kvs =>
            simp only [hl, hk] at p
            exact p.elim
          | ins cn kvs =>
            simp only [hl, hk] at p
            exact p.elim
          | lst zs =>
            simp only [hl, hk] at p
            by_cases q : xs.length + zs.length ≤ lim
            · rw [if_pos q] at p
              obtain ⟨a, ws, rfl, e2, e3, t⟩ := S.lstAt hl r
              obtain ⟨a2, ws2, rfl, e22, e32, t2⟩ := S.lstAt hk ri
              refine ⟨a, a2, ws, ws2, rfl, rfl, e3, e32, by rw [← t.length, ← t2.length]; exact lim_line q, ?_⟩
              exact p (W.wr a (.lst (ws ++ ws2))) (Ext.wr S e2) (S.wr e2 ⟨_, upd_same, (t.append t2).mono (Ext.wr S e2)⟩) _ .non
            · rw [if_neg q] at p
              exact p.elim
  · rename_i l zs
    obtain ⟨w, rfl, ri⟩ := rvs_one rs
    cases hl : h[l]? with
    | none =>
      rw [hl] at p
      exact p.elim
    | some o =>
      rw [hl] at p
      cases o with
      | dead => exact p.elim
      | dK kvs => exact p.elim
      | ins cn kvs => exact p.elim
      | lst xs =>
        dsimp only at p
        by_cases q : xs.length + zs.length ≤ lim
        · rw [if_pos q] at p
          obtain ⟨a, ws, rfl, e2, e3, t⟩ := S.lstAt hl r
          cases ri with
          | fls s2 e32 t2 =>
            refine ⟨a, _, ws, _, rfl, rfl, e3, e32, by rw [← t.length, ← t2.length]; exact lim_line q, ?_⟩
            exact p (W.wr a (.lst (ws ++ _))) (Ext.wr S e2) (S.wr e2 ⟨_, upd_same, (t.append t2).mono (Ext.wr S e2)⟩) _ .non
        · rw [if_neg q] at p
          exact p.elim
  · exact p.elim
theorem mm_rev : MthM K c rReverse revF := fun W h x ys v vs Q S r rs p => by
  unfold revF at p
  split at p
  · rename_i l
    cases rs
    cases hl : h[l]? with
    | none =>
      rw [hl] at p
      exact p.elim
    | some o =>
      rw [hl] at p
      cases o with
      | dead => exact p.elim
      | dK kvs => exact p.elim
      | ins cn kvs => exact p.elim
      | lst xs =>
        obtain ⟨a, ws, rfl, e2, e3, t⟩ := S.lstAt hl r
        exact ⟨a, ws, rfl, rfl, e3, p (W.wr a (.lst ws.reverse)) (Ext.wr S e2) (S.wr e2 ⟨_, upd_same, t.reverse.mono (Ext.wr S e2)⟩) _ .non⟩
  · exact p.elim
end
end Mi
set_option maxHeartbeats 2000000
/-! Mi: slices, lists put together, ranges as lists, sorted. -/
namespace Mi
open PySem L2
/-! ### slices -/
def cutM (xs : List MV) (lo hi : Option Int) : List MV := (xs.drop (HT.sIx xs.length 0 lo)).take (HT.sIx xs.length xs.length hi - HT.sIx xs.length 0 lo)
@[simp ↓] def noO : MM (Option Int) := fun _ h => ok none h
@[simp ↓] def someO (m : ME) : MM (Option Int) := fun s h => (m s h).bnd fun x h1 => match x with
  | .int i => ok (some i) h1
  | _ => none
@[simp ↓] def sliL (m : ME) (lo hi : MM (Option Int)) : MM (List MV) := fun s h => (m s h).bnd fun x h1 => (lo s h1).bnd fun a h2 => (hi s h2).bnd fun b h3 => match lstOf h3 x with
  | some xs => ok (cutM xs a b) h3
  | none => none
@[simp ↓] def sliT (m : ME) (lo hi : MM (Option Int)) : ME := fun s h => (m s h).bnd fun x h1 => (lo s h1).bnd fun a h2 => (hi s h2).bnd fun b h3 => match x with
  | .tup xs => ok (.tup (cutM xs a b)) h3
  | x => match lstOf h3 x with
    | some xs => ok (.fls (cutM xs a b)) h3
    | none => none
@[simp ↓] def rvsL (m : ME) : MM (List MV) := fun s h => (m s h).bnd fun x h1 => match lstOf h1 x with
  | some xs => ok xs.reverse h1
  | none => none
section
variable {X : Cx} {c : XC} {e : Expr} {pos p2 : Pos} {K : PySem.W.Frag} {W : Wd}
theorem RVs.cut {xs : List MV} {vs : List V} (t : RVs K W xs vs) (lo hi : Option Int) : RVs K W (cutM xs lo hi) (cutV vs lo hi) := by
  unfold cutM cutV
  rw [← t.length]
  exact (t.drop _).take _
theorem om_none : PO X none (tMO X.K c noO) := po_wk po_none fun σ H Q ⟨W, h, s, e, S, rs, p⟩ => by
  subst e
  exact p W (Ext.refl W) S
theorem om_some {m : ME} (h : EM X c e m) : PO X (some e) (tMO X.K c (someO m)) := po_wk (po_some h) fun σ H Q ⟨W, h, s, e, S, rs, p⟩ => by
  subst e
  refine ⟨W, h, s, rfl, S, rs, p.bnd fun W1 h1 x x1 S1 p1 v r1 => ?_⟩
  cases x <;> first | exact p1.elim | skip
  rename_i i
  exact ⟨i, rv_int r1, Pst.now p1 S1⟩
theorem lm_sli {m : ME} {lo hi : Option Expr} {ml mh : MM (Option Int)} (he : EM X c e m) (hl : PO X lo (tMO X.K c ml)) (hh : PO X hi (tMO X.K c mh)) : LM X c (.Subscript e (.Slice lo hi none p2) pos) (sliL m ml mh) :=
  pe_wk (pe_slice sl_list he hl hh) fun σ H Q ⟨W, h, s, e, S, rs, p⟩ => by
    subst e
    refine ⟨W, h, s, rfl, S, rs, p.bnd fun W1 h1 x x1 S1 p1 v r1 => ?_⟩
    refine ⟨W1, h1, s, rfl, S1, rs.mono x1, p1.bnd fun W2 h2 a x2 S2 p2 => ?_⟩
    refine ⟨W2, h2, s, rfl, S2, (rs.mono x1).mono x2, p2.bnd fun W3 h3 b x3 S3 p3 => ?_⟩
    cases hx : lstOf h3 x with
    | none =>
      rw [hx] at p3
      exact p3.elim
    | some xs =>
      rw [hx] at p3
      obtain ⟨q, vs, e1, e2, t⟩ := lst_sq S3 ((r1.mono x2).mono x3) hx
      exact ⟨q, vs, e1, e2, fun d hd => p3 W3 (Ext.refl _) S3 _ d (t.cut a b) hd⟩
theorem em_sli {m : ME} {lo hi : Option Expr} {ml mh : MM (Option Int)} (he : EM X c e m) (hl : PO X lo (tMO X.K c ml)) (hh : PO X hi (tMO X.K c mh)) : EM X c (.Subscript e (.Slice lo hi none p2) pos) (sliT m ml mh) :=
  pe_wk (pe_slice (SlR.or sl_list sl_tupA) he hl hh) fun σ H Q ⟨W, h, s, e, S, rs, p⟩ => by
    subst e
    refine ⟨W, h, s, rfl, S, rs, p.bnd fun W1 h1 x x1 S1 p1 v r1 => ?_⟩
    refine ⟨W1, h1, s, rfl, S1, rs.mono x1, p1.bnd fun W2 h2 a x2 S2 p2 => ?_⟩
    refine ⟨W2, h2, s, rfl, S2, (rs.mono x1).mono x2, p2.bnd fun W3 h3 b x3 S3 p3 => ?_⟩
    have r3 := (r1.mono x2).mono x3
    have go : Pst X.K c (CV X.K Q) W3 (match lstOf h3 x with | some xs => ok (.fls (cutM xs a b)) h3 | none => none) → rSlL X.K v a b W3.H Q := fun p3 => by
      cases hx : lstOf h3 x with
      | none =>
        rw [hx] at p3
        exact p3.elim
      | some xs =>
        rw [hx] at p3
        obtain ⟨q, vs, e1, e2, t⟩ := lst_sq S3 r3 hx
        exact ⟨q, vs, e1, e2, fun d hd => p3 (W3.put d _) (Ext.put S3 hd) (S3.put hd) (.ref d) (.fls (S3.fresh hd) upd_same ((t.cut a b).mono (Ext.put S3 hd)))⟩
    cases x with
    | tup xs =>
      obtain ⟨q, vs, rfl, e2, t⟩ := tup_sq r3
      refine .inr ⟨q, vs, rfl, e2, fun hw => ?_, fun hw d hd => ?_⟩
      · have ec : cutM xs a b = xs := by
          unfold cutM
          rw [t.length, hw.1, hw.2, ← t.length]
          simp
        have p4 : Pst X.K c (CV X.K Q) W3 (ok (.tup (cutM xs a b)) h3) := p3
        rw [ec] at p4
        exact Pst.now p4 S3 _ r3
      · exact p3 (W3.put d _) (Ext.put S3 hd) (S3.put hd) (.ref d) (.tup (S3.fresh hd) upd_same ((t.cut a b).mono (Ext.put S3 hd)))
    | _ => exact .inl (go p3)
theorem lm_rvs {m : ME} {k : Nat} {q1 q2 q3 : Pos} (he : EM X c e m) : LM X c (.Subscript e (.Slice none none (some (.UnaryOp .USub (.Constant (.int 1) k q1) q2)) q3) pos) (rvsL m) := pe_wk (pe_revL he) fun σ H Q ⟨W, h, s, e, S, rs, p⟩ => by
  subst e
  refine ⟨W, h, s, rfl, S, rs, p.bnd fun W1 h1 x x1 S1 p1 v r1 => ?_⟩
  cases hx : lstOf h1 x with
  | none =>
    rw [hx] at p1
    exact p1.elim
  | some xs =>
    rw [hx] at p1
    obtain ⟨q, vs, e1, e2, t⟩ := lst_sq S1 r1 hx
    exact ⟨q, vs, e1, e2, fun d hd => p1 W1 (Ext.refl _) S1 _ d t.reverse hd⟩
end
/-! ### lists put together -/
@[simp ↓] def wlstOf (h : MH) : MV → Option (List MV)
  | .fls xs => some xs
  | .ref l => match h[l]? with
    | some (.lst xs) => some xs
    | _ => none
  | _ => none
@[simp ↓] def catL (a b : ME) : MM (List MV) := fun s h => (a s h).bnd fun x h1 => (b s h1).bnd fun y h2 => match wlstOf h2 x, wlstOf h2 y with
  | some xs, some ys => if xs.length + ys.length ≤ lim then ok (xs ++ ys) h2 else none
  | _, _ => none
@[simp ↓] def repL (a b : ME) : MM (List MV) := fun s h => (a s h).bnd fun x h1 => (b s h1).bnd fun y h2 => match wlstOf h2 x, y with
  | some xs, .int k => if (k ≤ 1000000 ∧ -1000000 ≤ k) ∧ xs.length * k.toNat ≤ lim then ok (List.replicate k.toNat xs).flatten h2 else none
  | _, _ => none
@[simp ↓] def rgL (a : ME) : MM (List MV) := fun s h => (a s h).bnd fun x h1 => match x with
  | .int n => if n ≤ 1000000 ∧ -1000000 ≤ n then ok (runOf 0 n.toNat) h1 else none
  | _ => none
@[simp ↓] def rgT (a : ME) : ME := fun s h => (a s h).bnd fun x h1 => match x with
  | .int n => if n ≤ 1000000 ∧ -1000000 ≤ n then ok (.tup (runOf 0 n.toNat)) h1 else none
  | _ => none
section
variable {X : Cx} {c : XC} {a b : Expr} {pos p p2 : Pos} {K : PySem.W.Frag} {W : Wd}
theorem wlst_sq {h : MH} {x : MV} {v : V} {xs : List MV} (S : Sim K W h) (r : RV K W x v) (e : wlstOf h x = some xs) : ∃ p vs, v = .ref p ∧ W.H p = some (.lst vs) ∧ RVs K W xs vs := by
  cases x with
  | fls ys =>
    cases e
    cases r with
    | fls s q t => exact ⟨_, _, rfl, q, t⟩
  | ref l =>
    have e' : (match h[l]? with | some (.lst xs) => some xs | _ => none) = some xs := e
    cases hl : h[l]? with
    | none =>
      rw [hl] at e'
      cases e'
    | some o =>
      rw [hl] at e'
      cases o with
      | lst ys =>
        cases e'
        obtain ⟨a, vs, e1, e2, e3, r3⟩ := S.lstAt hl r
        exact ⟨a, vs, e1, e3, r3⟩
      | dead => cases e'
      | dK kvs => cases e'
      | ins cn kvs => cases e'
  | _ => cases e
theorem lm_cat {ma mb : ME} (ha : EM X c a ma) (hb : EM X c b mb) : LM X c (.BinOp a .Add b pos) (catL ma mb) := pe_wk (pe_op op_cat ha hb) fun σ H Q ⟨W, h, s, e, S, rs, p⟩ => by
  subst e
  refine ⟨W, h, s, rfl, S, rs, p.bnd fun W1 h1 x x1 S1 p1 u r1 => ?_⟩
  refine ⟨W1, h1, s, rfl, S1, rs.mono x1, p1.bnd fun W2 h2 y x2 S2 p2 v r2 => ?_⟩
  cases hx : wlstOf h2 x with
  | none =>
    simp only [hx] at p2
    exact p2.elim
  | some xs =>
    cases hy : wlstOf h2 y with
    | none =>
      simp only [hx, hy] at p2
      exact p2.elim
    | some ys =>
      simp only [hx, hy] at p2
      by_cases q : xs.length + ys.length ≤ lim
      · rw [if_pos q] at p2
        obtain ⟨d1, vs, e1, e2, t1⟩ := wlst_sq S2 (r1.mono x2) hx
        obtain ⟨d2, ws, e3, e4, t2⟩ := wlst_sq S2 r2 hy
        exact ⟨d1, d2, vs, ws, e1, e3, e2, e4, by rw [← t1.length, ← t2.length]; exact lim_line q, fun d hd => p2 W2 (Ext.refl _) S2 _ d (t1.append t2) hd⟩
      · rw [if_neg q] at p2
        exact p2.elim
theorem RVs.rep {xs : List MV} {vs : List V} (t : RVs K W xs vs) : ∀ k : Nat, RVs K W (List.replicate k xs).flatten (List.replicate k vs).flatten
  | 0 => .nil
  | k + 1 => by
    rw [List.replicate_succ, List.replicate_succ, List.flatten_cons, List.flatten_cons]
    exact t.append (RVs.rep t k)
theorem lm_rep {ma mb : ME} (ha : EM X c a ma) (hb : EM X c b mb) : LM X c (.BinOp a .Mult b pos) (repL ma mb) := pe_wk (pe_op op_rep ha hb) fun σ H Q ⟨W, h, s, e, S, rs, p⟩ => by
  subst e
  refine ⟨W, h, s, rfl, S, rs, p.bnd fun W1 h1 x x1 S1 p1 u r1 => ?_⟩
  refine ⟨W1, h1, s, rfl, S1, rs.mono x1, p1.bnd fun W2 h2 y x2 S2 p2 v r2 => ?_⟩
  cases hx : wlstOf h2 x with
  | none =>
    simp only [hx] at p2
    exact p2.elim
  | some xs =>
    cases y <;> first | (simp only [hx] at p2; exact p2.elim) | skip
    rename_i k
    simp only [hx] at p2
    by_cases q : (k ≤ 1000000 ∧ -1000000 ≤ k) ∧ xs.length * k.toNat ≤ lim
    · rw [if_pos q] at p2
      obtain ⟨d1, vs, e1, e2, t1⟩ := wlst_sq S2 (r1.mono x2) hx
      exact ⟨d1, k, vs, e1, rv_int r2, e2, by omega, by omega, by rw [← t1.length]; exact lim_line q.2, fun d hd => p2 W2 (Ext.refl _) S2 _ d (t1.rep _) hd⟩
    · rw [if_neg q] at p2
      exact p2.elim
theorem runOf_V (a : Int) (n : Nat) : RVs K W (runOf a n) ((List.range n).map fun (i : Nat) => V.int (a + (i : Int))) := by
  unfold runOf
  induction List.range n with
  | nil => exact .nil
  | cons i l ih => exact .cons (.int _) ih
theorem rgV_of (n : Int) : rgV 0 n = (List.range n.toNat).map fun (i : Nat) => V.int (0 + (i : Int)) := by
  unfold rgV
  rw [Int.sub_zero]
theorem lm_rg {ma : ME} {p1 : Pos} (hc : X.calm = true) (hg : Gl X "list") (hm : X.mg "list" = none) (hg2 : Gl X "range") (hm2 : X.mg "range" = none) (ha : EM X c a ma) (na : starEach [a] X.env = (false, eval a X.env) :: starEach [] X.env := by rfl)
    (nb : starEach [.Call (.Name "range" p1) [a] [] p2] X.env = (false, eval (.Call (.Name "range" p1) [a] [] p2) X.env) :: starEach [] X.env := by rfl) : LM X c (.Call (.Name "list" p) [.Call (.Name "range" p1) [a] [] p2] [] pos) (rgL ma) :=
  pe_wk (pe_listRg hc hg hm (prg_1 hg2 hm2 ha na) nb) fun σ H Q ⟨W, h, s, e, S, rs, p⟩ => by
    subst e
    refine ⟨W, h, s, rfl, S, rs, p.bnd fun W1 h1 x x1 S1 p1 u r1 => ?_⟩
    cases x <;> first | exact p1.elim | skip
    rename_i n
    have p' : Pst X.K c (CL X.K Q) W1 (if n ≤ 1000000 ∧ -1000000 ≤ n then ok (runOf 0 n.toNat) h1 else none) := p1
    by_cases q : n ≤ 1000000 ∧ -1000000 ≤ n
    · rw [if_pos q] at p'
      exact ⟨n, rv_int r1, ⟨by omega, by omega, by omega, by omega, by omega⟩, fun d hd => by rw [rgV_of]; exact p' W1 (Ext.refl _) S1 _ d (runOf_V 0 _) hd⟩
    · rw [if_neg q] at p'
      exact p'.elim
theorem em_rgT {ma : ME} {p1 : Pos} (hc : X.calm = true) (hg : Gl X "tuple") (hm : X.mg "tuple" = none) (hg2 : Gl X "range") (hm2 : X.mg "range" = none) (ha : EM X c a ma) (na : starEach [a] X.env = (false, eval a X.env) :: starEach [] X.env := by rfl)
    (nb : starEach [.Call (.Name "range" p1) [a] [] p2] X.env = (false, eval (.Call (.Name "range" p1) [a] [] p2) X.env) :: starEach [] X.env := by rfl) : EM X c (.Call (.Name "tuple" p) [.Call (.Name "range" p1) [a] [] p2] [] pos) (rgT ma) :=
  pe_wk (pe_tupRg hc hg hm (prg_1 hg2 hm2 ha na) nb) fun σ H Q ⟨W, h, s, e, S, rs, p⟩ => by
    subst e
    refine ⟨W, h, s, rfl, S, rs, p.bnd fun W1 h1 x x1 S1 p1 u r1 => ?_⟩
    cases x <;> first | exact p1.elim | skip
    rename_i n
    have p' : Pst X.K c (CV X.K Q) W1 (if n ≤ 1000000 ∧ -1000000 ≤ n then ok (.tup (runOf 0 n.toNat)) h1 else none) := p1
    by_cases q : n ≤ 1000000 ∧ -1000000 ≤ n
    · rw [if_pos q] at p'
      refine ⟨n, rv_int r1, ⟨by omega, by omega, by omega, by omega, by omega⟩, fun d hd => ?_⟩
      rw [rgV_of]
      exact p' (W1.put d _) (Ext.put S1 hd) (S1.put hd) (.ref d) (.tup (S1.fresh hd) upd_same (runOf_V 0 _))
    · rw [if_neg q] at p'
      exact p'.elim
end
/-! ### sorted -/
/-- a sort by putting in -/
def insB {α : Type} (le : α → α → Bool) (x : α) : List α → List α
  | [] => [x]
  | y :: ys => if le x y = true then x :: y :: ys else y :: insB le x ys
def srtB {α : Type} (le : α → α → Bool) : List α → List α
  | [] => []
  | x :: xs => insB le x (srtB le xs)
section
variable {α : Type} {le : α → α → Bool}
theorem insB_perm (x : α) : ∀ l : List α, (insB le x l).Perm (x :: l)
  | [] => List.Perm.refl _
  | y :: ys => by
    unfold insB
    by_cases h : le x y = true
    · rw [if_pos h]
    · rw [if_neg h]
      exact ((insB_perm x ys).cons y).trans (List.Perm.swap x y ys)
theorem srtB_perm : ∀ l : List α, (srtB le l).Perm l
  | [] => List.Perm.refl _
  | x :: xs => (insB_perm x _).trans ((srtB_perm xs).cons x)
theorem insB_srt (tot : ∀ a b, le a b = true ∨ le b a = true) (tr : ∀ a b c, le a b = true → le b c = true → le a c = true) (x : α) : ∀ {l : List α}, l.Pairwise (fun a b => le a b = true) → (insB le x l).Pairwise (fun a b => le a b = true)
  | [], _ => List.pairwise_singleton _ x
  | y :: ys, h => by
    obtain ⟨h1, h2⟩ := List.pairwise_cons.mp h
    unfold insB
    by_cases q : le x y = true
    · rw [if_pos q]
      exact List.pairwise_cons.mpr ⟨fun z hz => (List.mem_cons.mp hz).elim (fun e => by rw [e]; exact q) fun hz => tr x y z q (h1 z hz), h⟩
    · rw [if_neg q]
      refine List.pairwise_cons.mpr ⟨fun z hz => ?_, insB_srt tot tr x h2⟩
      rcases List.mem_cons.mp ((insB_perm x ys).mem_iff.mp hz) with e | hz
      · rw [e]
        exact (tot x y).resolve_left q
      · exact h1 z hz
theorem srtB_srt (tot : ∀ a b, le a b = true ∨ le b a = true) (tr : ∀ a b c, le a b = true → le b c = true → le a c = true) : ∀ l : List α, (srtB le l).Pairwise (fun a b => le a b = true)
  | [] => List.Pairwise.nil
  | x :: xs => insB_srt tot tr x (srtB_srt tot tr xs)
theorem srt_uniq (anti : ∀ a b, le a b = true → le b a = true → a = b) (rf : ∀ a, le a a = true) : ∀ {l m : List α}, l.Pairwise (fun a b => le a b = true) → m.Pairwise (fun a b => le a b = true) → l.Perm m → l = m
  | [], m, _, _, h => (List.Perm.eq_nil h.symm).symm
  | x :: l, [], _, _, h => absurd h.length_eq (by simp)
  | x :: l, y :: m, hl, hm, h => by
    obtain ⟨l1, l2⟩ := List.pairwise_cons.mp hl
    obtain ⟨m1, m2⟩ := List.pairwise_cons.mp hm
    have e : x = y := by
      refine anti x y ?_ ?_
      · rcases List.mem_cons.mp (h.mem_iff.mpr (List.mem_cons_self (a := y) (l := m))) with e | hy
        · rw [e]
          exact rf x
        · exact l1 y hy
      · rcases List.mem_cons.mp (h.mem_iff.mp (List.mem_cons_self (a := x) (l := l))) with e | hx
        · rw [e]
          exact rf y
        · exact m1 x hx
    subst e
    rw [srt_uniq anti rf l2 m2 h.cons_inv]
end
def leI (a b : Int) : Bool := decide (a ≤ b)
def leP (p q : Int × Int) : Bool := decide (p.1 < q.1) || (decide (p.1 = q.1) && decide (p.2 ≤ q.2))
theorem leP_iff {p q : Int × Int} : leP p q = true ↔ p.1 < q.1 ∨ (p.1 = q.1 ∧ p.2 ≤ q.2) := by
  unfold leP
  simp
theorem leP_tot (a b : Int × Int) : leP a b = true ∨ leP b a = true := by
  rw [leP_iff, leP_iff]
  omega
theorem leP_tr (a b c : Int × Int) : leP a b = true → leP b c = true → leP a c = true := by
  rw [leP_iff, leP_iff, leP_iff]
  omega
theorem leP_anti (a b : Int × Int) (h1 : leP a b = true) (h2 : leP b a = true) : a = b := by
  rw [leP_iff] at h1 h2
  exact Prod.ext (by omega) (by omega)
def pairOf : MV → Option (Int × Int)
  | .tup [.int a, .int b] => some (a, b)
  | _ => none
def pairsOf : List MV → Option (List (Int × Int))
  | [] => some []
  | x :: xs => match pairOf x, pairsOf xs with
    | some p, some ps => some (p :: ps)
    | _, _ => none
def mvP (p : Int × Int) : MV := .tup [.int p.1, .int p.2]
def sortPF (xs : List MV) (h : MH) : Res (List MV) := match xs with
  | [x] => match (lstOf h x).bind pairsOf with
    | some ps => ok ((srtB leP ps).map mvP) h
    | none => none
  | _ => none
def sortIF (xs : List MV) (h : MH) : Res (List MV) := match xs with
  | [x] => match (lstOf h x).bind intsOf with
    | some ps => ok ((srtB leI ps).map MV.int) h
    | none => none
  | _ => none
section
variable {X : Cx} {c : XC} {K : PySem.W.Frag} {W : Wd}
theorem cl_sortI : CallL K c (rSortedI K) sortIF := fun W h xs vs Q S r p => by
  unfold sortIF at p
  split at p
  · rename_i x
    obtain ⟨v, rfl, r1⟩ := rvs_one r
    cases e : (lstOf h x).bind intsOf with
    | none =>
      rw [e] at p
      exact p.elim
    | some ns =>
      rw [e] at p
      obtain ⟨a, ws, ys, rfl, hq, t, e2⟩ := lst_bind S r1 e
      refine ⟨a, ns, rfl, by rw [← (ints_V t e2).1]; exact hq, fun ns' d pm so hd => ?_⟩
      have en : ns' = srtB leI ns := by
        refine srt_uniq (le := leI) (fun a b h1 h2 => ?_) (fun a => decide_eq_true (Int.le_refl a)) ?_ ?_ (pm.trans (srtB_perm ns).symm)
        · have := of_decide_eq_true h1
          have := of_decide_eq_true h2
          omega
        · exact so.imp fun h => decide_eq_true h
        · refine srtB_srt (fun a b => ?_) (fun a b d h1 h2 => ?_) ns
          · rcases Int.le_total a b with h | h
            · exact .inl (decide_eq_true h)
            · exact .inr (decide_eq_true h)
          · exact decide_eq_true (Int.le_trans (of_decide_eq_true h1) (of_decide_eq_true h2))
      subst en
      refine p W (Ext.refl W) S _ d ?_ hd
      induction srtB leI ns with
      | nil => exact .nil
      | cons i l ih => exact .cons (.int i) ih
  · exact p.elim
/-- the key of a pair that stands in the heap -/
def keyV (H : Hp) (v : V) : Int × Int := match v with
  | .ref t => match H t with
    | some (.tup [.int a, .int b]) => (a, b)
    | _ => (0, 0)
  | _ => (0, 0)
theorem pair_V {x : MV} {v : V} {q : Int × Int} (r : RV K W x v) (e : pairOf x = some q) : x = mvP q ∧ ∃ t, v = .ref t ∧ W.H t = some (.tup [.int q.1, .int q.2]) := by
  unfold pairOf at e
  split at e
  · rename_i a b
    cases e
    cases r with
    | tup s q t =>
      obtain ⟨v1, v2, rfl, r1, r2⟩ := rvs_two t
      rw [rv_int r1, rv_int r2] at q
      exact ⟨rfl, _, rfl, q⟩
  · cases e
theorem pairs_V : ∀ {xs : List MV} {vs : List V} {ps : List (Int × Int)}, RVs K W xs vs → pairsOf xs = some ps → (∀ v ∈ vs, ∃ t, v = V.ref t ∧ W.H t = some (.tup [.int (keyV W.H v).1, .int (keyV W.H v).2])) ∧ vs.map (keyV W.H) = ps ∧ ∀ v ∈ vs, RV K W (mvP (keyV W.H v)) v
  | [], _, _, .nil, e => by
    cases e
    exact ⟨(by simp), rfl, by simp⟩
  | x :: xs, _, ps, .cons (v := v) r t, e => by
    unfold pairsOf at e
    cases h : pairOf x with
    | none =>
      rw [h] at e
      cases e
    | some q =>
      cases h2 : pairsOf xs with
      | none =>
        rw [h, h2] at e
        cases e
      | some qs =>
        rw [h, h2] at e
        cases e
        obtain ⟨a, b, d⟩ := pairs_V t h2
        obtain ⟨ex, tt, ev, eH⟩ := pair_V r h
        have ek : keyV W.H v = q := by
          rw [ev]
          show (match W.H tt with | some (.tup [.int a, .int b]) => (a, b) | _ => (0, 0)) = q
          rw [eH]
        refine ⟨fun u hu => ?_, by rw [List.map_cons, ek, b], fun u hu => ?_⟩
        · rcases List.mem_cons.mp hu with e | hu
          · rw [e, ek]
            exact ⟨tt, ev, eH⟩
          · exact a u hu
        · rcases List.mem_cons.mp hu with e | hu
          · rw [e, ek, ← ex]
            exact r
          · exact d u hu
theorem cl_sortP : CallL K c (rSortedPO K) sortPF := fun W h xs vs Q S r p => by
  unfold sortPF at p
  split at p
  · rename_i x
    obtain ⟨v, rfl, r1⟩ := rvs_one r
    cases e : (lstOf h x).bind pairsOf with
    | none =>
      rw [e] at p
      exact p.elim
    | some ns =>
      rw [e] at p
      obtain ⟨a, ws, ys, rfl, hq, t, e2⟩ := lst_bind S r1 e
      obtain ⟨h1, h2, h3⟩ := pairs_V t e2
      refine ⟨a, ws, keyV W.H, rfl, hq, h1, fun zs d so st hd => ?_⟩
      have en : zs.map (keyV W.H) = srtB leP ns := by
        refine srt_uniq (le := leP) leP_anti (fun a => leP_iff.mpr (.inr ⟨rfl, Int.le_refl _⟩)) ?_ (srtB_srt leP_tot leP_tr ns) ?_
        · refine List.pairwise_map.mpr (List.Pairwise.imp (fun {a b} (h : ltP (keyV W.H) b a = false) => ?_) so)
          have := SrtO.lexB_no.mp h
          rw [leP_iff]
          omega
        · rw [← h2]
          exact (st.perm.map _).trans ((srtB_perm (ws.map (keyV W.H))).symm)
      refine p W (Ext.refl W) S _ d ?_ hd
      rw [← en]
      have hm : ∀ u ∈ zs, RV K W (mvP (keyV W.H u)) u := fun u hu => h3 u (st.perm.mem_iff.mp hu)
      clear en so st
      induction zs with
      | nil => exact .nil
      | cons u us ih => exact .cons (hm u (List.mem_cons_self ..)) (ih fun z hz => hm z (List.mem_cons_of_mem _ hz))
  · exact p.elim
end
/-! ### the law's own promise -/
def spLaw (K : PySem.W.Frag) : Sp := fun vs H Q _ => ∃ (a : Addr) (ns : List Int), vs = [.ref a] ∧ SqL K H a (ns.map V.int) ∧ ns.length ≤ 63 ∧ ∀ H', Q (.bl true) H'
theorem law_start {K : PySem.W.Frag} {mg : Str → Option Value} {f : MF} (L : ∀ ns : List Int, ns.length ≤ 63 → ∃ h, f [.frz (ns.map MV.int)] [] = ok (.bl true) h) : ∀ vs H Q E, spLaw K vs H Q E → spM K mg 1 f vs H Q E := fun vs H Q E ⟨a, ns, e, hS, hl, k⟩ => by
  subst e
  have S : Sim K ⟨fun _ => none, 0, H, fun _ => False⟩ [] := ⟨rfl, fun _ _ e => (by cases e), fun _ _ _ e => (by cases e), fun _ _ e => (by cases e), fun _ _ e => (by simp at e), fun _ _ e => (by cases e), fun _ e => e.elim⟩
  have rs : RVs K ⟨fun _ => none, 0, H, fun _ => False⟩ (ns.map MV.int) (ns.map V.int) := by
    clear hl hS
    induction ns with
    | nil => exact .nil
    | cons i l ih => exact .cons (.int i) ih
  refine ⟨⟨fun _ => none, 0, H, fun _ => False⟩, [], [.frz (ns.map MV.int)], rfl, S, .cons ?_ .nil, rfl, ?_⟩
  · rcases hS with hS | hS
    · exact .frz ⟨fun _ e => (by cases e), fun e => e.elim⟩ hS rs
    · exact .frzK (fun _ => .inr hS) rs
  · obtain ⟨h, e⟩ := L ns hl
    rw [e]
    intro W1 x1 S1 v rv
    rw [rv_bl rv]
    exact k _
end Mi
set_option maxHeartbeats 2000000
/-! Mi: how to reckon with mirrors: loops, comprehensions, heaps that are kept, lists of lists. -/
namespace Mi
open PySem L2
/-! ### heaps -/
/-- all places are as they were, but those for which P holds -/
structure Keep (P : Nat → Prop) (h h' : MH) : Prop where
  le : h.length ≤ h'.length
  at_ : ∀ j, j < h.length → ¬ P j → h'[j]? = h[j]?
theorem at_len {h : MH} {l : Nat} {o : MO} (e : h[l]? = some o) : l < h.length := (List.getElem?_eq_some_iff.mp e).1
theorem Keep.refl {P : Nat → Prop} (h : MH) : Keep P h h := ⟨Nat.le_refl _, fun _ _ _ => rfl⟩
theorem Keep.trans {P : Nat → Prop} {h h1 h2 : MH} (a : Keep P h h1) (b : Keep P h1 h2) : Keep P h h2 := ⟨Nat.le_trans a.le b.le, fun j hj hp => (b.at_ j (Nat.lt_of_lt_of_le hj a.le) hp).trans (a.at_ j hj hp)⟩
theorem Keep.weak {P Q : Nat → Prop} {h h1 : MH} (a : Keep P h h1) (i : ∀ j, j < h.length → P j → Q j) : Keep Q h h1 := ⟨a.le, fun j hj hp => a.at_ j hj fun z => hp (i j hj z)⟩
theorem Keep.get {P : Nat → Prop} {h h' : MH} (a : Keep P h h') {j : Nat} {o : MO} (e : h[j]? = some o) (hp : ¬ P j) : h'[j]? = some o := (a.at_ j (at_len e) hp).trans e
theorem Keep.set {P : Nat → Prop} {h h' : MH} {l : Nat} {o : MO} (a : Keep P h h') (hl : l < h.length → P l) : Keep P h (h'.set l o) := ⟨by rw [List.length_set]; exact a.le, fun j hj hp => by
  rw [List.getElem?_set_ne (fun z => hp (by rw [← z]; exact hl (by rw [z]; exact hj)))]
  exact a.at_ j hj hp⟩
theorem Keep.app {P : Nat → Prop} {h h' : MH} {o : MO} (a : Keep P h h') : Keep P h (h' ++ [o]) := ⟨by
  rw [List.length_append]
  exact Nat.le_trans a.le (Nat.le_add_right _ _), fun j hj hp => by
  rw [List.getElem?_append_left (Nat.lt_of_lt_of_le hj a.le)]
  exact a.at_ j hj hp⟩
theorem get_app {h : MH} {o : MO} : (h ++ [o])[h.length]? = some o := by simp
theorem get_app_left {h : MH} {o u : MO} {j : Nat} (e : h[j]? = some u) : (h ++ [o])[j]? = some u := by
  rw [List.getElem?_append_left (at_len e)]
  exact e
theorem get_set {h : MH} {o u : MO} {l : Nat} (e : h[l]? = some u) : (h.set l o)[l]? = some o := List.getElem?_set_self (at_len e)
theorem get_set_ne {h : MH} {o u : MO} {l j : Nat} (e : h[j]? = some u) (n : j ≠ l) : (h.set l o)[j]? = some u := by
  rw [List.getElem?_set_ne (Ne.symm n)]
  exact e
/-! ### loops -/
/-- the loop runs through: each turn goes on -/
theorem forS_ok {bd : MV → MT} (I : Nat → MS → MH → Prop) : ∀ {xs : List MV} {i0 : Nat} {s : MS} {h : MH}, (∀ i x s h, xs[i]? = some x → I (i0 + i) s h → ∃ s' h', (bd x s h = some (.nx s' h') ∨ bd x s h = some (.cnt s' h')) ∧ I (i0 + i + 1) s' h') → I i0 s h →
    ∃ s' h', forS bd xs s h = some (.nx s' h') ∧ I (i0 + xs.length) s' h'
  | [], i0, s, h, _, h0 => ⟨s, h, rfl, h0⟩
  | x :: xs, i0, s, h, hs, h0 => by
    obtain ⟨s1, h1, e, q⟩ := hs 0 x s h rfl h0
    obtain ⟨s2, h2, e2, q2⟩ := forS_ok I (xs := xs) (i0 := i0 + 1) (s := s1) (h := h1) (fun i y s h hy hi => by
      obtain ⟨s', h', e', q'⟩ := hs (i + 1) y s h (by simpa using hy) (by rw [show i0 + (i + 1) = i0 + 1 + i by omega]; exact hi)
      exact ⟨s', h', e', by rw [show i0 + 1 + i + 1 = i0 + (i + 1) + 1 by omega]; exact q'⟩) q
    refine ⟨s2, h2, ?_, by rw [List.length_cons, show i0 + (xs.length + 1) = i0 + 1 + xs.length by omega]; exact q2⟩
    unfold forS
    rcases e with e | e <;> rw [e] <;> exact e2
/-- over range(n) -/
theorem for_run {g : MV → MS → Option MS} {m : MT} (I : Nat → MS → MH → Prop) {a : Int} {n : Nat} {s : MS} {h : MH} (h0 : I 0 s h)
    (hs : ∀ i s h, i < n → I i s h → ∃ s' h', (turnM g m (.int (a + (i : Int))) s h = some (.nx s' h') ∨ turnM g m (.int (a + (i : Int))) s h = some (.cnt s' h')) ∧ I (i + 1) s' h') : ∃ s' h', forS (turnM g m) (runOf a n) s h = some (.nx s' h') ∧ I n s' h' := by
  have := forS_ok (bd := turnM g m) I (xs := runOf a n) (i0 := 0) (s := s) (h := h) (fun i x s h hx hi => by
    obtain ⟨q, e⟩ := runOf_get hx
    subst e
    rw [Nat.zero_add] at hi
    obtain ⟨s', h', e', q'⟩ := hs i s h q hi
    exact ⟨s', h', e', by rw [Nat.zero_add]; exact q'⟩) h0
  rw [runOf_len, Nat.zero_add] at this
  exact this
/-- a comprehension whose parts leave the heap alone -/
theorem lcS_pure {g : MV → MS → Option MS} {cd : MM Bool} {el : ME} {s0 : MS} {h : MH} (c : MV → Bool) (e : MV → MV) : ∀ {xs acc : List MV}, (∀ x ∈ xs, ∃ s1, g x s0 = some s1 ∧ cd s1 h = ok (c x) h ∧ (c x = true → el s1 h = ok (e x) h)) → acc.length + xs.length ≤ lim →
    lcS g cd el s0 xs acc h = ok (acc ++ (xs.filter c).map e) h
  | [], acc, _, _ => by
    show ok acc h = _
    rw [List.filter_nil, List.map_nil, List.append_nil]
  | x :: xs, acc, hs, hl => by
    obtain ⟨s1, e1, e2, e3⟩ := hs x (List.mem_cons_self ..)
    rw [List.length_cons] at hl
    have ih := fun acc h => lcS_pure c e (xs := xs) (acc := acc) (fun y hy => hs y (List.mem_cons_of_mem _ hy)) h
    unfold lcS
    rw [e1]
    show (cd s1 h).bnd _ = _
    rw [e2, bnd_ok]
    cases hc : c x with
    | false =>
      rw [if_neg Bool.false_ne_true, ih acc (by omega), List.filter_cons_of_neg (by rw [hc]; exact Bool.false_ne_true)]
    | true =>
      rw [if_pos rfl, e3 hc, bnd_ok, if_pos (by omega), ih (acc ++ [e x]) (by rw [List.length_append]; show acc.length + 1 + xs.length ≤ lim; omega), List.filter_cons_of_pos hc, List.map_cons, List.append_assoc]
      rfl
/-- one over range(n) -/
theorem lc_run {g : MV → MS → Option MS} {cd : MM Bool} {el : ME} {s0 : MS} {h : MH} {n : Nat} (c : Nat → Bool) (e : Nat → MV) (hn : n ≤ lim) (hs : ∀ i, i < n → ∃ s1, g (.int (i : Int)) s0 = some s1 ∧ cd s1 h = ok (c i) h ∧ (c i = true → el s1 h = ok (e i) h)) :
    lcS g cd el s0 (runOf 0 n) [] h = ok (((List.range n).filter c).map e) h := by
  have nat : ∀ i : Nat, ((0 : Int) + (i : Int)) = (i : Int) := fun i => Int.zero_add _
  have := lcS_pure (g := g) (cd := cd) (el := el) (s0 := s0) (h := h) (fun x => match x with | .int i => c i.toNat | _ => false) (fun x => match x with | .int i => e i.toNat | _ => .non) (xs := runOf 0 n) (acc := []) (fun x hx => by
    obtain ⟨i, hi, ex⟩ := List.mem_map.mp hx
    rw [nat] at ex
    subst ex
    obtain ⟨s1, a1, a2, a3⟩ := hs i (List.mem_range.mp hi)
    exact ⟨s1, a1, by simpa using a2, fun q => by simpa using a3 (by simpa using q)⟩) (by rw [runOf_len]; simpa using hn)
  rw [this, List.nil_append]
  unfold runOf
  rw [List.filter_map, List.map_map]
  have q1 : ((fun x : MV => match x with | .int i => c i.toNat | _ => false) ∘ fun (i : Nat) => MV.int ((0 : Int) + (i : Int))) = c := by
    funext i
    show c ((0 : Int) + (i : Int)).toNat = c i
    rw [nat, Int.toNat_natCast]
  have q2 : ((fun x : MV => match x with | .int i => e i.toNat | _ => MV.non) ∘ fun (i : Nat) => MV.int ((0 : Int) + (i : Int))) = e := by
    funext i
    show e ((0 : Int) + (i : Int)).toNat = e i
    rw [nat, Int.toNat_natCast]
  rw [q1, q2]
/-- a comprehension that changes the heap -/
theorem lcS_ok {g : MV → MS → Option MS} {cd : MM Bool} {el : ME} {s0 : MS} (I : Nat → List MV → MH → Prop) : ∀ {xs : List MV} {i0 : Nat} {acc : List MV} {h : MH}, (∀ i x acc h, xs[i]? = some x → I (i0 + i) acc h → ∃ s1, g x s0 = some s1 ∧ ∃ b h1, cd s1 h = ok b h1 ∧
      (b = true → ∃ y h2, el s1 h1 = ok y h2 ∧ acc.length < lim ∧ I (i0 + i + 1) (acc ++ [y]) h2) ∧ (b = false → I (i0 + i + 1) acc h1)) → I i0 acc h →
    ∃ acc' h', lcS g cd el s0 xs acc h = ok acc' h' ∧ I (i0 + xs.length) acc' h'
  | [], i0, acc, h, _, h0 => ⟨acc, h, rfl, h0⟩
  | x :: xs, i0, acc, h, hs, h0 => by
    obtain ⟨s1, e1, b, h1, e2, ht, hf⟩ := hs 0 x acc h rfl h0
    have ih := fun acc' h' => lcS_ok I (g := g) (cd := cd) (el := el) (s0 := s0) (xs := xs) (i0 := i0 + 1) (acc := acc') (h := h') (fun i y acc h hy hi => by
      obtain ⟨s2, a1, b', h', a2, a3, a4⟩ := hs (i + 1) y acc h (by simpa using hy) (by rw [show i0 + (i + 1) = i0 + 1 + i by omega]; exact hi)
      exact ⟨s2, a1, b', h', a2, by rw [show i0 + 1 + i + 1 = i0 + (i + 1) + 1 by omega]; exact a3, by rw [show i0 + 1 + i + 1 = i0 + (i + 1) + 1 by omega]; exact a4⟩)
    unfold lcS
    rw [e1]
    show ∃ acc' h', (cd s1 h).bnd _ = _ ∧ _
    rw [e2, List.length_cons, show i0 + (xs.length + 1) = i0 + 1 + xs.length by omega]
    simp only [bnd_ok]
    cases b with
    | false =>
      simp only [if_neg Bool.false_ne_true]
      exact ih acc h1 (hf rfl)
    | true =>
      obtain ⟨y, h2, e3, hl, q⟩ := ht rfl
      simp only [if_pos, e3, bnd_ok, if_pos hl]
      exact ih (acc ++ [y]) h2 q
theorem lc_runH {g : MV → MS → Option MS} {cd : MM Bool} {el : ME} {s0 : MS} {n : Nat} (I : Nat → List MV → MH → Prop) {h : MH} (h0 : I 0 [] h) (hs : ∀ i acc h, i < n → I i acc h → ∃ s1, g (.int (i : Int)) s0 = some s1 ∧ ∃ b h1, cd s1 h = ok b h1 ∧
      (b = true → ∃ y h2, el s1 h1 = ok y h2 ∧ acc.length < lim ∧ I (i + 1) (acc ++ [y]) h2) ∧ (b = false → I (i + 1) acc h1)) : ∃ acc' h', lcS g cd el s0 (runOf 0 n) [] h = ok acc' h' ∧ I n acc' h' := by
  have := lcS_ok (g := g) (cd := cd) (el := el) (s0 := s0) I (xs := runOf 0 n) (i0 := 0) (acc := []) (h := h) (fun i x acc h hx hi => by
    obtain ⟨q, e⟩ := runOf_get hx
    rw [Int.zero_add] at e
    subst e
    rw [Nat.zero_add] at hi ⊢
    exact hs i acc h q hi) h0
  rw [runOf_len, Nat.zero_add] at this
  exact this
/-! ### places by numbers -/
theorem ixN_nat {n j : Nat} (hj : j < n) : ixN n (j : Int) = some j := by
  unfold ixN
  rw [if_pos (by omega), if_pos (by omega)]
  simp
theorem ix_lst {h : MH} {x : MV} {xs : List MV} {j : Nat} {y : MV} (hx : seqOf h x = some xs) (e : xs[j]? = some y) (hs : ∀ z, x ≠ .str z := by intro _ z; cases z) : ixF x (.int (j : Int)) h = ok y h := by
  cases x <;> first | exact absurd rfl (hs _) | (unfold ixF; dsimp only; rw [hx]; dsimp only; rw [atI_nat e])
theorem ix_ref {h : MH} {l : Nat} {xs : List MV} {j : Nat} {y : MV} (hx : h[l]? = some (.lst xs)) (e : xs[j]? = some y) : ixF (.ref l) (.int (j : Int)) h = ok y h := ix_lst (by show (match h[l]? with | some (.lst xs) => some xs | _ => none) = some xs; rw [hx]) e
theorem wr_ref {h : MH} {l : Nat} {xs : List MV} {j : Nat} {y : MV} (hx : h[l]? = some (.lst xs)) (e : j < xs.length) : wrF l (j : Int) y h = some (h.set l (.lst (xs.set j y))) := by
  unfold wrF
  rw [hx]
  dsimp only
  rw [ixN_nat e]
/-! ### lists of lists -/
theorem nd_set : ∀ {rs : List Nat} {i a : Nat}, rs.Nodup → a ∉ rs → (rs.set i a).Nodup
  | [], _, _, _, _ => by simp
  | r :: rs, 0, a, n, q => by
    rw [List.set_cons_zero]
    exact List.nodup_cons.mpr ⟨fun z => q (List.mem_cons_of_mem _ z), (List.nodup_cons.mp n).2⟩
  | r :: rs, i + 1, a, n, q => by
    rw [List.set_cons_succ]
    refine List.nodup_cons.mpr ⟨fun z => ?_, nd_set (List.nodup_cons.mp n).2 fun z => q (List.mem_cons_of_mem _ z)⟩
    rcases List.mem_or_eq_of_mem_set z with z | z
    · exact (List.nodup_cons.mp n).1 z
    · exact q (by rw [← z]; exact List.mem_cons_self ..)
structure Mat (h : MH) (R : Nat) (rows : List (List MV)) (lo : Nat) (rs : List Nat) : Prop where
  top : h[R]? = some (.lst (rs.map MV.ref))
  len : rs.length = rows.length
  nd : rs.Nodup
  no : R ∉ rs
  loR : lo ≤ R
  lor : ∀ r ∈ rs, lo ≤ r
  row : ∀ (i r : Nat) (xs : List MV), rs[i]? = some r → rows[i]? = some xs → h[r]? = some (.lst xs)
theorem Mat.getR {h : MH} {R lo : Nat} {rows : List (List MV)} {rs : List Nat} (M : Mat h R rows lo rs) {i : Nat} {xs : List MV} (e : rows[i]? = some xs) : ∃ r, rs[i]? = some r ∧ h[r]? = some (.lst xs) := by
  have hi : i < rs.length := by
    rw [M.len]
    exact (List.getElem?_eq_some_iff.mp e).1
  exact ⟨rs[i], List.getElem?_eq_getElem hi, M.row i _ xs (List.getElem?_eq_getElem hi) e⟩
/-- R[i] -/
theorem Mat.ix {h : MH} {R lo : Nat} {rows : List (List MV)} {rs : List Nat} (M : Mat h R rows lo rs) {i : Nat} {xs : List MV} (e : rows[i]? = some xs) : ∃ r, rs[i]? = some r ∧ h[r]? = some (.lst xs) ∧ ixF (.ref R) (.int (i : Int)) h = ok (.ref r) h := by
  obtain ⟨r, a, b⟩ := M.getR e
  exact ⟨r, a, b, ix_ref M.top (by rw [List.getElem?_map, a]; rfl)⟩
/-- R[i][j] = y -/
theorem Mat.wr {h : MH} {R lo : Nat} {rows : List (List MV)} {rs : List Nat} (M : Mat h R rows lo rs) {i r : Nat} {xs ys : List MV} (er : rs[i]? = some r) (e : rows[i]? = some xs) : Mat (h.set r (MO.lst ys)) R (rows.set i ys) lo rs where
  top := get_set_ne M.top fun z => M.no (by rw [z]; exact List.mem_of_getElem? er)
  len := by
    rw [List.length_set]
    exact M.len
  nd := M.nd
  no := M.no
  loR := M.loR
  lor := M.lor
  row := fun k r' zs hr hz => by
    by_cases hk : i = k
    · subst hk
      rw [er] at hr
      cases hr
      rw [List.getElem?_set_self (List.getElem?_eq_some_iff.mp e).1] at hz
      cases hz
      exact get_set (M.row i r xs er e)
    · rw [List.getElem?_set_ne hk] at hz
      refine get_set_ne (M.row k r' zs hr hz) fun z => hk ?_
      subst z
      exact nd_ix M.nd er hr
/-- R[i] = a new list -/
theorem Mat.put {h : MH} {R lo : Nat} {rows : List (List MV)} {rs : List Nat} (M : Mat h R rows lo rs) {i : Nat} {ys : List MV} (hlo : lo ≤ h.length) : Mat ((h ++ [MO.lst ys]).set R (MO.lst ((rs.set i h.length).map MV.ref))) R (rows.set i ys) lo (rs.set i h.length) := by
  have new : ∀ r ∈ rs, r < h.length := fun r hr => by
    obtain ⟨i, hi⟩ := List.getElem?_of_mem hr
    obtain ⟨xs, hx⟩ : ∃ xs, rows[i]? = some xs := ⟨_, List.getElem?_eq_getElem (by rw [← M.len]; exact (List.getElem?_eq_some_iff.mp hi).1)⟩
    exact at_len (M.row i r xs hi hx)
  have nR : R ≠ h.length := Nat.ne_of_lt (at_len M.top)
  have nin : h.length ∉ rs := fun z => Nat.lt_irrefl _ (new _ z)
  refine ⟨get_set (get_app_left M.top), by rw [List.length_set, List.length_set]; exact M.len, ?_, fun z => ?_, M.loR, fun r hr => ?_, fun k r zs hr hz => ?_⟩
  · exact nd_set M.nd nin
  · rcases List.mem_or_eq_of_mem_set z with z | z
    · exact M.no z
    · exact nR z
  · rcases List.mem_or_eq_of_mem_set hr with z | z
    · exact M.lor r z
    · rw [z]
      exact hlo
  · by_cases hk : i = k
    · subst hk
      have hi : i < rs.length := by
        have := (List.getElem?_eq_some_iff.mp hr).1
        rw [List.length_set] at this
        exact this
      rw [List.getElem?_set_self hi] at hr
      rw [List.getElem?_set_self (by rw [← M.len]; exact hi)] at hz
      cases hr
      cases hz
      exact get_set_ne get_app (Ne.symm nR)
    · rw [List.getElem?_set_ne hk] at hr hz
      have e := M.row k r zs hr hz
      exact get_set_ne (get_app_left e) fun z => M.no (by rw [← z]; exact List.mem_of_getElem? hr)
theorem Mat.keep {h h' : MH} {R lo : Nat} {rows : List (List MV)} {rs : List Nat} (M : Mat h R rows lo rs) {P : Nat → Prop} (k : Keep P h h') (hP : ∀ j, P j → j < lo) : Mat h' R rows lo rs := ⟨k.get M.top fun z => absurd (hP _ z) (by have := M.loR; omega), M.len, M.nd, M.no, M.loR, M.lor,
  fun i r xs hr hx => k.get (M.row i r xs hr hx) fun z => absurd (hP _ z) (by have := M.lor r (List.mem_of_getElem? hr); omega)⟩
/-- a value without places of the heap at its top -/
def flatT : MV → Bool
  | .ref _ => false
  | _ => true
theorem frzL_flat : ∀ {xs : List MV} (n : Nat) (h : MH), xs.all flatT = true → frzL (n + 1) xs h = some (xs, h)
  | [], n, h, _ => by
    unfold frzL
    rfl
  | x :: xs, n, h, e => by
    rw [List.all_cons, Bool.and_eq_true] at e
    unfold frzL
    have e1 : frzV (n + 1) x h = some (x, h) := by
      unfold frzV
      cases x <;> first | rfl | cases e.1
    rw [e1]
    dsimp only
    rw [frzL_flat n h e.2]
theorem frz_lst {h : MH} {l : Nat} {xs : List MV} (n : Nat) (e : h[l]? = some (.lst xs)) (hf : xs.all flatT = true) : frzV (n + 2) (.ref l) h = some (.fls xs, h.set l .dead) := by
  unfold frzV
  dsimp only
  rw [e]
  dsimp only
  rw [frzL_flat n h hf]
theorem frzL_rows {h : MH} {P : Nat → Prop} : ∀ {rs : List Nat} {rows : List (List MV)} {g : MH} (n : Nat), Keep P h g → (∀ r ∈ rs, r < h.length → P r) → rs.length = rows.length → rs.Nodup → (∀ (i r : Nat) (xs : List MV), rs[i]? = some r → rows[i]? = some xs → g[r]? = some (.lst xs) ∧ xs.all flatT = true) →
    ∃ g', frzL (n + 2) (rs.map MV.ref) g = some (rows.map MV.fls, g') ∧ Keep P h g' ∧ ∀ j, j ∉ rs → g'[j]? = g[j]?
  | [], [], g, n, k, _, _, _, _ => ⟨g, by unfold frzL; rfl, k, fun _ _ => rfl⟩
  | r :: rs, xs :: rows, g, n, k, hp, hl, nd, hr => by
    obtain ⟨e, f⟩ := hr 0 r xs rfl rfl
    obtain ⟨nd1, nd2⟩ := List.nodup_cons.mp nd
    obtain ⟨g', e2, k2, q2⟩ := frzL_rows (rs := rs) (rows := rows) (g := g.set r .dead) n (k.set (hp r (List.mem_cons_self ..))) (fun a ha => hp a (List.mem_cons_of_mem _ ha)) (by simpa using hl) nd2 (fun i a ys ha hy => by
      obtain ⟨e', f'⟩ := hr (i + 1) a ys (by simpa using ha) (by simpa using hy)
      exact ⟨get_set_ne e' fun z => nd1 (by rw [← z]; exact List.mem_of_getElem? ha), f'⟩)
    refine ⟨g', ?_, k2, fun j hj => ?_⟩
    · rw [List.map_cons, List.map_cons]
      unfold frzL
      rw [frz_lst n e f]
      dsimp only
      rw [e2]
    · rw [q2 j fun z => hj (List.mem_cons_of_mem _ z), List.getElem?_set_ne fun z => hj (by rw [z]; exact List.mem_cons_self ..)]
  | [], _ :: _, _, _, _, _, hl, _, _ => by simp at hl
  | _ :: _, [], _, _, _, _, hl, _, _ => by simp at hl
/-- the whole stands still -/
theorem Mat.frz {h0 h : MH} {R lo : Nat} {rows : List (List MV)} {rs : List Nat} (M : Mat h R rows lo rs) {P : Nat → Prop} (k : Keep P h0 h) (hlo : h0.length ≤ lo) (hf : ∀ xs ∈ rows, xs.all flatT = true) : ∃ h', frzV 4 (.ref R) h = some (.fls (rows.map MV.fls), h') ∧ Keep P h0 h' := by
  obtain ⟨g, e, k2, q⟩ := frzL_rows (h := h0) (P := P) (rs := rs) (rows := rows) (g := h) 1 k (fun r hr hlt => absurd (M.lor r hr) (by omega)) M.len M.nd fun i r xs hr hx => ⟨M.row i r xs hr hx, hf xs (List.mem_of_getElem? hx)⟩
  refine ⟨g.set R .dead, ?_, k2.set fun hlt => absurd M.loR (by omega)⟩
  unfold frzV
  dsimp only
  rw [M.top]
  dsimp only
  rw [e]
theorem keeps {P : Nat → Prop} {h : MH} (os : List MO) : Keep P h (h ++ os) := ⟨by
  rw [List.length_append]
  exact Nat.le_add_right _ _, fun j hj _ => List.getElem?_append_left hj⟩
/-- F 0, F 1, .. F (n - 1) -/
def tb {α : Type} (n : Nat) (F : Nat → α) : List α := (List.range n).map F
@[simp] theorem tb_len {α : Type} {n : Nat} {F : Nat → α} : (tb n F).length = n := by simp [tb]
theorem tb_get {α : Type} {n i : Nat} {F : Nat → α} (h : i < n) : (tb n F)[i]? = some (F i) := by simp [tb, h]
theorem tb_some {α : Type} {n i : Nat} {F : Nat → α} {x : α} (h : (tb n F)[i]? = some x) : i < n ∧ x = F i := by
  have hi := (List.getElem?_eq_some_iff.mp h).1
  rw [tb_len] at hi
  rw [tb_get hi] at h
  exact ⟨hi, (Option.some.inj h).symm⟩
theorem tb_mem {α : Type} {n : Nat} {F : Nat → α} {x : α} : x ∈ tb n F ↔ ∃ i, i < n ∧ F i = x := by simp [tb]
theorem tb_set {α : Type} {n i : Nat} {F : Nat → α} {y : α} : (tb n F).set i y = tb n fun k => if k = i then y else F k := by
  apply List.ext_getElem?
  intro j
  rw [List.getElem?_set]
  by_cases hj : j < n
  · rw [tb_get hj, tb_get hj, tb_len]
    by_cases hi : i = j
    · subst hi
      rw [if_pos rfl, if_pos hj, if_pos rfl]
    · rw [if_neg hi, if_neg (Ne.symm hi)]
  · have e : ∀ G : Nat → α, (tb n G)[j]? = none := fun G => List.getElem?_eq_none (by rw [tb_len]; omega)
    rw [e, e, tb_len]
    by_cases hi : i = j
    · subst hi
      rw [if_pos rfl, if_neg hj]
    · rw [if_neg hi]
theorem tb_map {α β : Type} {n : Nat} {F : Nat → α} {G : α → β} : (tb n F).map G = tb n fun k => G (F k) := by simp [tb]
theorem tb_congr {α : Type} {n : Nat} {F G : Nat → α} (h : ∀ i, i < n → F i = G i) : tb n F = tb n G := List.map_congr_left fun i hi => h i (List.mem_range.mp hi)
theorem tb_succ {α : Type} {n : Nat} {F : Nat → α} : tb (n + 1) F = tb n F ++ [F n] := by simp [tb, List.range_succ]
theorem tb_nd {n a : Nat} : (tb n fun k => a + k).Nodup := by
  unfold tb
  refine List.Pairwise.map _ (R := (· ≠ ·)) (S := (· ≠ ·)) (fun x y h => by omega) List.nodup_range
/-- all of range(n), with no test -/
theorem lc_tb {g : MV → MS → Option MS} {el : ME} {s0 : MS} {h : MH} {n : Nat} (e : Nat → MV) (hn : n ≤ lim) (hs : ∀ i, i < n → ∃ s1, g (.int (i : Int)) s0 = some s1 ∧ el s1 h = ok (e i) h) :
    lcS g yesT el s0 (runOf 0 n) [] h = ok (tb n e) h := by
  have := lc_run (g := g) (cd := yesT) (el := el) (s0 := s0) (h := h) (fun _ => true) e hn fun i hi => by
    obtain ⟨s1, a, b⟩ := hs i hi
    exact ⟨s1, a, rfl, fun _ => b⟩
  rw [show (List.range n).filter (fun _ => true) = List.range n from List.filter_eq_self.mpr fun _ _ => rfl] at this
  exact this
/-- a list of new lists -/
theorem lc_refs {g : MV → MS → Option MS} {s0 : MS} {h : MH} {n : Nat} {m : MM (List MV)} (row : Nat → List MV) (hn : n ≤ lim) (hs : ∀ i h, i < n → ∃ s1, g (.int (i : Int)) s0 = some s1 ∧ m s1 h = ok (row i) h) :
    lcS g yesT (refM m) s0 (runOf 0 n) [] h = ok (tb n fun k => MV.ref (h.length + k)) (h ++ tb n fun k => MO.lst (row k)) := by
  obtain ⟨acc, h', e, e1, e2⟩ := lc_runH (g := g) (cd := yesT) (el := refM m) (s0 := s0) (n := n) (h := h) (fun i acc h' => acc = (tb i fun k => MV.ref (h.length + k)) ∧ h' = h ++ tb i fun k => MO.lst (row k)) ⟨rfl, by simp [tb]⟩ (fun i acc h' hi ⟨e1, e2⟩ => by
    obtain ⟨s1, a, b⟩ := hs i h' hi
    refine ⟨s1, a, true, h', rfl, fun _ => ⟨.ref h'.length, h' ++ [.lst (row i)], ?_, ?_, ?_, ?_⟩, fun z => nomatch z⟩
    · show (m s1 h').bnd _ = _
      rw [b]
      rfl
    · rw [e1, tb_len]
      omega
    · rw [e1, e2, tb_succ, List.length_append, tb_len]
    · rw [e2, tb_succ, List.append_assoc])
  rw [e, e1, e2]
theorem mat_init {h : MH} {n : Nat} (row : Nat → List MV) : Mat (h ++ ((tb n fun k => MO.lst (row k)) ++ [MO.lst (tb n fun k => MV.ref (h.length + k))])) (h.length + n) (tb n row) h.length (tb n fun k => h.length + k) := by
  have e : h ++ ((tb n fun k => MO.lst (row k)) ++ [MO.lst (tb n fun k => MV.ref (h.length + k))]) = (h ++ tb n fun k => MO.lst (row k)) ++ [MO.lst (tb n fun k => MV.ref (h.length + k))] := by rw [List.append_assoc]
  refine ⟨?_, by rw [tb_len, tb_len], tb_nd, fun z => ?_, by omega, fun r hr => ?_, fun i r xs hr hx => ?_⟩
  · rw [e, tb_map]
    have : h.length + n = (h ++ tb n fun k => MO.lst (row k)).length := by rw [List.length_append, tb_len]
    rw [this]
    exact get_app
  · obtain ⟨i, hi, q⟩ := tb_mem.mp z
    omega
  · obtain ⟨i, hi, q⟩ := tb_mem.mp hr
    omega
  · obtain ⟨hi, e1⟩ := tb_some hr
    obtain ⟨_, e2⟩ := tb_some hx
    subst e1
    subst e2
    rw [e]
    refine get_app_left ?_
    rw [List.getElem?_append_right (by omega), show h.length + i - h.length = i by omega, tb_get hi]
/-- a table of truth values, standing still -/
def matV (n k : Nat) (f : Nat → Nat → Bool) : MV := .fls (tb n fun x => .fls (tb k fun y => .bl (f x y)))
end Mi
set_option maxHeartbeats 2000000
/-! Mi: enumerate over what stands still, dicts by numbers and texts. -/
namespace Mi
open PySem L2
/-! ### enumerate(v), one argument -/
set_option maxHeartbeats 1000000 in
theorem enum1_meets {v : Value} {o : Obj} {Fr : Heap → Prop} (B : Begins v o Fr) :
    Meets (Builtin.«enumerate.__new__» ⟨[.type "enumerate", v], []⟩) (fun _ R s => Fr s.heap ∧ R (.ok (.ret (.ref (s.heap.push o).objs.size)))
        { s with heap := (s.heap.push o).push { cls := .type "enumerate", data := .fields #[.none, .bool false, .ref s.heap.objs.size, rawInt 0, .none, .none] } }) :=
  .of_wp fun pr wo A R st h => by
    obtain ⟨hp, g, d, tk, os⟩ := st
    obtain ⟨h1, h2⟩ := h
    have sub1 := sub_enumerate
    have it1 : ∀ {A' : Around} {E : Value → Shared → Prop} {Q : Value → Shared → Prop}, Q (.ref hp.objs.size) ⟨hp.push o, g, d, tk, os⟩ → wpAny (model pr wo) A' (pyIter v) Q E ⟨hp, g, d, tk, os⟩ := fun q => B.iter pr wo _ _ ⟨hp, g, d, tk, os⟩ _ h1 q
    wp_walk using it1
    refine wpAny_stack_any fun _ => wpAny_pure ?_
    split
    · rename_i cc _ _ _ _ _
      cases (cc == Value.type "enumerate") <;> (wp_walk using it1; exact ⟨_, rfl, h2⟩)
    · wp_walk using it1
      exact ⟨_, rfl, h2⟩
theorem enum1_call {prog : Program} {w : World} {A : Around} {E : Value → Shared → Prop} {s : Shared} {v : Value} {o : Obj} {Fr : Heap → Prop} {Q : Value → Shared → Prop} (B : Begins v o Fr) (h1 : Fr s.heap)
    (h : ∀ g, IsEnum g (s.heap.objs.size + 1) s.heap.objs.size 0 .none → g.get? s.heap.objs.size = some o → (∀ b u, s.heap.get? b = some u → g.get? b = some u) → Q (.ref (s.heap.objs.size + 1)) { s with heap := g }) :
    wpAny (model prog w) A (call (.type "enumerate") [v]) Q E s := by
  refine callType_new F.called_enumerate (by decide) (F.typeCall_enumerate_1 _) (F.newCall_enumerate_1 _) (fun obj => F.args_object_init_2 obj _) F.entry_enumerate_new (enum1_meets B) ⟨h1, ?_⟩
  have z : (s.heap.push o).objs.size = s.heap.objs.size + 1 := Heap.size_push ..
  show _ ∧ _
  rw [z]
  have e1 : IsEnum ((s.heap.push o).push { cls := .type "enumerate", data := .fields #[.none, .bool false, .ref s.heap.objs.size, rawInt 0, .none, .none] }) (s.heap.objs.size + 1) s.heap.objs.size 0 .none := by
    have q := Heap.get?_push_size (s.heap.push o) (o := { cls := .type "enumerate", data := .fields #[.none, .bool false, .ref s.heap.objs.size, rawInt 0, .none, .none] }) rfl
    rw [z] at q
    exact q
  exact ⟨⟨_, e1, rfl⟩, h _ e1 (Heap.get?_push_of_some _ (Heap.get?_push_size _ B.free)) fun b u x => Heap.get?_push_of_some _ (Heap.get?_push_of_some _ x)⟩
theorem enumT_end {prog : Program} {w : World} {A : Around} {E : Value → Shared → Prop} {s : Shared} {e it l : Addr} {i : Nat} {items : Array Value} {old : Value} {Q : Option Value → Shared → Prop} (hh : A.handled = none) (he : IsEnum s.heap e it i old)
    (hit : s.heap.IsTupleIter it l i) (hl : s.heap.IsTuple l items) (hx : items[i]? = none) (hQ : ∀ g, Heap.ExtBut it s.heap g → Q none { s with heap := g }) : wpAny (model prog w) A (pyNext (.ref e)) Q E s := by
  have ty : s.TypeIs (.ref e) "enumerate" := ⟨_, he, rfl⟩
  unfold pyNext
  refine wpAny_bind (wpAny_attempt (wpAny_callSpecial?_slot (name := Str.ofString "__next__") ty F.slot_enumerate_next (wpAny_call_entry F.slot_enumerate_next ty F.entry_enumerate_next ?_ (F.args_enumerate_next_1 _))))
  show wpAny _ _ (field (.ref e) 2 >>= _) _ _ _
  refine wpAny_bind (wpAny_field he rfl (x := .ref it) rfl (wpAny_bind (wpAny_nextOf_tuple_end hh hit hl hx fun g x eg hx' => ?_)))
  obtain ⟨o, ho, hc⟩ := hx'
  exact wpAny_bind (wpAny_isInstance (T := "StopIteration") (b := true) ⟨o, ho, hc⟩ isSubtype_stop (wpAny_pure (hQ _ eg)))
/-- the tuple at a, each item in a new pair -/
def Itu (K : PySem.W.Frag) (a : Addr) : It :=
  ⟨fun i H => ∃ (xs : List V) (x : V), SqT K H a xs ∧ xs[i]? = some x, fun i H v H' => ∃ T x, v = .ref T ∧ H T = none ∧ H' = upd H T (.tup [.int (i : Nat), x]) ∧ ∀ xs, SqT K H a xs → xs[i]? = some x, fun i H => ∃ xs : List V, SqT K H a xs ∧ xs.length ≤ i⟩
theorem turn_enumT {P : Program} {w : World} {K : PySem.W.Frag} {elts : List Expr} {kk : Nat} {tpos : Pos} (a e it : Addr) :
    Turn P w K (.Tuple elts kk tpos) (Itu K a) [e, it] e (fun i h => (∃ old, IsEnum h e it ((i : Nat) : Int) old) ∧ h.IsTupleIter it a i ∧ e ≠ it) where
  mem := by simp
  obj := fun i h st b hb => by
    obtain ⟨⟨old, he⟩, ⟨o, ho, hc, hd⟩, _⟩ := st
    rcases (show b = e ∨ b = it by simpa using hb) with z | z <;> rw [z]
    · exact ⟨_, he, fun v q => nomatch q⟩
    · exact ⟨o, ho, fun v q => by rw [hd] at q; cases q⟩
  keep := fun i h h' st k => ⟨⟨st.1.choose, k e (by simp) _ st.1.choose_spec⟩, st.2.1.at fun o q => k it (by simp) o q, st.2.2⟩
  item := by
    intro X hP hw hK hc i pins s σ H E I hf st hg
    subst hP hw hK
    obtain ⟨⟨old, he⟩, hit, hne⟩ := st
    obtain ⟨xs, x, hq, hx⟩ := hg
    obtain ⟨its, rv, p, hz⟩ := I.tuple hq
    obtain ⟨u, hu, ru⟩ := rv.get hx
    have pt : s.heap.IsTuple a its.toArray := p
    have hai : a ≠ it := fun z => by
      subst z
      obtain ⟨o1, a1, a2, _⟩ := pt
      obtain ⟨o2, b1, b2, _⟩ := hit
      rw [a1] at b1
      cases b1
      rw [a2] at b2
      exact absurd b2 (by decide)
    have hae : e ≠ a := fun z => by
      subst z
      obtain ⟨o1, a1, a2, _⟩ := pt
      have he' := he
      unfold IsEnum at he'
      rw [a1] at he'
      cases he'
      exact absurd (show Value.type "enumerate" = Value.type "tuple" from a2) (by decide)
    have hel : e < s.heap.objs.size := Heap.lt_size he
    have hil : it < s.heap.objs.size := hit.elim fun _ q => Heap.lt_size q.1
    have hlt : i < its.toArray.size := by
      have := (List.getElem?_eq_some_iff.mp hu).1
      simpa using this
    refine wpAny_pyNext_enum_itemC (Draws.tuple (A := X.A.in1) (I.ok.hd hc) it a hai its.toArray) he ⟨hit, pt⟩ hlt hne (by simp [hne, hae]) fun x' h' tk hP ho hs' hT hsz hk => ?_
    obtain rfl : x' = u := by
      have : its[i]? = some x' := by simpa using hP
      rw [hu] at this
      exact (Option.some.inj this).symm
    refine ⟨_, rfl, wpAny_letOwnedTupleGo_enum (s := { s with heap := h', toks := tk + 1 }) ho fun g he' sb => ?_⟩
    have hT2 : g.get? s.heap.objs.size = some { cls := .type "tuple", data := .seq #[.int i tk, x'] } := (sb.2 _ (Nat.ne_of_gt hel)).trans hT
    have new : ObjOk X.prog X.w (upd H s.heap.objs.size (.tup [.int (i : Nat), x])) g s.heap.objs.size (.tup [.int (i : Nat), x]) :=
      ⟨by show 2 ≤ sizeLine; decide, [.int i tk, x'], .cons ⟨_, rfl⟩ (.cons ru .nil), ⟨_, hT2, rfl, _, rfl⟩⟩
    have I1 : Inv X pins σ (upd H s.heap.objs.size (.tup [.int (i : Nat), x])) { s with heap := g, toks := tk + 1 } :=
      I.turnedNew (ch := [e, it]) (fun b ob hb q => (sb.2 b (fun z => hb (by simp [z]))).trans (hk b ob (fun z => hb (by simp [z])) (fun z => hb (by simp [z])) q)) hf (Nat.le_refl _) new
    refine ⟨.ref s.heap.objs.size, _, I1, rfl, ⟨_, x, rfl, I.hok.fresh (Nat.le_refl _), rfl, fun ys hy => by rw [I.tuple_inj hy hq]; exact hx⟩, ⟨⟨x', ?_⟩, hs'.1.at fun o q => (sb.2 it (Ne.symm hne)).trans q, hne⟩, fun b hb => ?_⟩
    · rw [show ((i + 1 : Nat) : Int) = (i : Int) + 1 by omega]
      exact he'
    · have hb' : b < s.heap.objs.size := by
        rcases (show b = e ∨ b = it by simpa using hb) with z | z <;> rw [z]
        · exact hel
        · exact hil
      rw [upd_ne (Nat.ne_of_lt hb')]
      exact (hf b hb).1
  done := by
    intro X hP hw hK hc i pins s σ H E I hf st hg
    subst hP hw hK
    obtain ⟨⟨old, he⟩, hit, hne⟩ := st
    obtain ⟨xs, hq, hx⟩ := hg
    obtain ⟨its, rv, p, hz⟩ := I.tuple hq
    have pt : s.heap.IsTuple a its.toArray := p
    obtain ⟨f0, f1, f2, f3, f4, f5⟩ := hf it (by simp)
    have hl := rv.length
    exact enumT_end (I.ok.hd hc) he hit pt (by simp; omega) fun h' eb => ⟨rfl, I.turned (t' := s.toks) (fun b o hb e => eb b o hb e) f0 f1 f3 f4 f5⟩
  self := fun A i s Q E st h => wpAny_pyIter_enum st.1.choose_spec h
def iEn (K : PySem.W.Frag) (ta : TA) : TI := fun σ H R => ta σ H fun vs H1 => ∃ a, vs = [.ref a] ∧ ((∃ xs, SqL K H1 a xs ∧ R (Ite K a) H1) ∨ ∃ xs, SqT K H1 a xs ∧ R (Itu K a) H1)
theorem pi_en {X : Cx} {e : Expr} {ta : TA} {p pos tpos : Pos} {elts : List Expr} {kk : Nat} (hg : Gl X "enumerate") (hm : X.mg "enumerate" = none) (ha : PA X [e] ta) (hs : starEach [e] X.env = [(false, eval e X.env)] := by rfl) :
    PI X (.Tuple elts kk tpos) (.Call (.Name "enumerate" p) [e] [] pos) (iEn X.K ta) := by
  refine ⟨fun pins s σ H R I h => PyProof.Rows.Call_ (ld_blt I hg hm PyProof.Rows.boot_enumerate (PyProof.Rows.callWith_type1 (thn (ha.run pos pins s σ H _ I h) fun us s1 ⟨vs, H1, I1, r1, a, ex, q1⟩ => ?_) hs rfl))⟩
  subst ex
  obtain _ | ⟨r, rr⟩ := r1
  cases rr
  cases r
  have fp : ∀ b ∈ [s1.heap.objs.size + 1, s1.heap.objs.size], FpOk X pins H1 b := fun b hb => by
    have hle : s1.heap.objs.size ≤ b := by
      rcases (show b = s1.heap.objs.size + 1 ∨ b = s1.heap.objs.size by simpa using hb) with z | z <;> omega
    exact I1.fpOk hle (I1.hok.fresh hle)
  rcases q1 with ⟨xs, hq, q⟩ | ⟨xs, hq, q⟩
  · obtain ⟨its, rv, pl, hz⟩ := I1.list hq
    refine enum1_call (begins_list a its.toArray) pl.isList fun g he hit hk => wpAny_pyIter_enum he ?_
    exact ⟨s1.heap.objs.size + 1, [s1.heap.objs.size + 1, s1.heap.objs.size], _, _, H1, rfl, I1.kept (t' := s1.toks) hk, turn_enum a (s1.heap.objs.size + 1) s1.heap.objs.size, ⟨⟨.none, he⟩, ⟨_, hit, rfl, rfl⟩, Nat.succ_ne_self _⟩, fp, q⟩
  · obtain ⟨its, rv, pl, hz⟩ := I1.tuple hq
    refine enum1_call (begins_tuple a its.toArray) (show s1.heap.IsTuple a its.toArray from pl) fun g he hit hk => wpAny_pyIter_enum he ?_
    exact ⟨s1.heap.objs.size + 1, [s1.heap.objs.size + 1, s1.heap.objs.size], _, _, H1, rfl, I1.kept (t' := s1.toks) hk, turn_enumT a (s1.heap.objs.size + 1) s1.heap.objs.size, ⟨⟨.none, he⟩, ⟨_, hit, rfl, rfl⟩, Nat.succ_ne_self _⟩, fp, q⟩
/-- what stands still, by its items -/
def stOf : MV → Option (List MV)
  | .tup xs => some xs
  | .ktp xs => some xs
  | .fls xs => some xs
  | .frz xs => some xs
  | _ => none
def enmOf : Nat → List MV → List MV
  | _, [] => []
  | i, x :: xs => .tup [.int (i : Int), x] :: enmOf (i + 1) xs
theorem enm_len : ∀ {i : Nat} {xs : List MV}, (enmOf i xs).length = xs.length
  | _, [] => rfl
  | i, x :: xs => by
    show (enmOf (i + 1) xs).length + 1 = xs.length + 1
    rw [enm_len]
theorem enm_get : ∀ {i k : Nat} {xs : List MV}, (enmOf i xs)[k]? = (xs[k]?).map fun x => .tup [.int ((i + k : Nat) : Int), x]
  | _, _, [] => by simp [enmOf]
  | i, 0, x :: xs => rfl
  | i, k + 1, x :: xs => by
    show (enmOf (i + 1) xs)[k]? = (xs[k]?).map _
    rw [enm_get, show i + 1 + k = i + (k + 1) by omega]
@[simp ↓] def enmF (xs : List MV) (h : MH) : Res MIter := match xs with
  | [x] => match stOf x with
    | some ys => ok (.st (enmOf 0 ys)) h
    | none => none
  | _ => none
@[simp ↓] def enmI (m : MM (List MV)) : MM MIter := fun s h => (m s h).bnd enmF
section
variable {X : Cx} {c : XC} {K : PySem.W.Frag} {W : Wd}
/-- a new pair of a turn -/
theorem enm_yld {h : MH} {T : Addr} {i : Nat} {x : MV} {v : V} (S : Sim K W h) (hT : W.H T = none) (r : RV K W x v) : ∃ W2 : Wd, W2.H = upd W.H T (.tup [.int (i : Nat), v]) ∧ Ext W W2 ∧ Sim K W2 h ∧ RV K W2 (.tup [.int ((0 + i : Nat) : Int), x]) (.ref T) := by
  have xp : Ext W (W.put T (.tup [.int (i : Nat), v])) := Ext.put S hT
  refine ⟨_, rfl, xp, Sim.put S hT, ?_⟩
  rw [Nat.zero_add]
  exact .tup (S.fresh hT) upd_same (.cons (.int _) (.cons (r.mono xp) .nil))
theorem jr_enL {x : MV} {u : V} {xs : List MV} {h : MH} (S : Sim K W h) (r : RV K W x u) (hx : x = .fls xs ∨ x = .frz xs) : ∃ a, u = .ref a ∧ (∃ vs, SqL K W.H a vs) ∧ JR K W (.st (enmOf 0 xs)) (Ite K a) := by
  have go : ∀ (W' : Wd), Ext W W' → ∀ h', Sim K W' h' → ∃ a vs, u = .ref a ∧ SqL K W'.H a vs ∧ RVs K W' xs vs := fun W' x' h' S' => by
    have r' := r.mono x'
    rcases hx with e | e <;> subst e <;> exact lst_sq (h := h') S' r' rfl
  obtain ⟨a, vs, e1, e2, t⟩ := go W (Ext.refl W) h S
  refine ⟨a, e1, ⟨vs, e2⟩, fun i W' h' x' S' => ?_⟩
  obtain ⟨b, ws, f1, f2, t'⟩ := go W' x' h' S'
  rw [e1] at f1
  cases f1
  refine ⟨fun y hy => ?_, fun hi => ⟨ws, f2, by rw [← t'.length, ← enm_len (i := 0)]; exact hi⟩⟩
  rw [enm_get] at hy
  cases hx0 : xs[i]? with
  | none =>
    rw [hx0] at hy
    cases hy
  | some x0 =>
    rw [hx0] at hy
    cases hy
    obtain ⟨v, hv, rv⟩ := t'.get hx0
    refine ⟨⟨ws, v, f2, hv⟩, fun v2 H2 ⟨T, z, e, hT, eh, y2⟩ => ?_⟩
    have q := y2 ws f2
    rw [hv] at q
    cases q
    subst e
    subst eh
    exact enm_yld S' hT rv
theorem jr_enT {x : MV} {u : V} {xs : List MV} {h : MH} (S : Sim K W h) (r : RV K W x u) (hx : x = .tup xs ∨ x = .ktp xs) : ∃ a, u = .ref a ∧ (∃ vs, SqT K W.H a vs) ∧ JR K W (.st (enmOf 0 xs)) (Itu K a) := by
  have sq : ∀ {W' : Wd}, RV K W' x u → ∃ p vs, u = .ref p ∧ SqT K W'.H p vs ∧ RVs K W' xs vs := fun r => by
    rcases hx with e | e <;> subst e
    · exact tup_sq r
    · exact ktp_sq r
  obtain ⟨a, vs, e1, e2, t⟩ := sq r
  refine ⟨a, e1, ⟨vs, e2⟩, fun i W' h' x' S' => ?_⟩
  obtain ⟨b, ws, f1, f2, t'⟩ := sq (r.mono x')
  rw [e1] at f1
  cases f1
  refine ⟨fun y hy => ?_, fun hi => ⟨ws, f2, by rw [← t'.length, ← enm_len (i := 0)]; exact hi⟩⟩
  rw [enm_get] at hy
  cases hx0 : xs[i]? with
  | none =>
    rw [hx0] at hy
    cases hy
  | some x0 =>
    rw [hx0] at hy
    cases hy
    obtain ⟨v, hv, rv⟩ := t'.get hx0
    refine ⟨⟨ws, v, f2, hv⟩, fun v2 H2 ⟨T, z, e, hT, eh, y2⟩ => ?_⟩
    have q := y2 ws f2
    rw [hv] at q
    cases q
    subst e
    subst eh
    exact enm_yld S' hT rv
theorem im_enm {e : Expr} {m : MM (List MV)} {p pos tpos : Pos} {elts : List Expr} {kk : Nat} (hg : Gl X "enumerate") (hm : X.mg "enumerate" = none) (ha : AM X c [e] m) (hs : starEach [e] X.env = [(false, eval e X.env)] := by rfl) :
    IM X c (.Tuple elts kk tpos) (.Call (.Name "enumerate" p) [e] [] pos) (enmI m) := pi_wk (pi_en hg hm ha hs) fun σ H R ⟨W, h, s, e, S, rs, p⟩ => by
  subst e
  refine ⟨W, h, s, rfl, S, rs, p.bnd fun W1 h1 xs x1 S1 p1 vs r1 => ?_⟩
  match xs, vs, r1, p1 with
  | [x], [v], .cons r .nil, p1 =>
    have p2 : Pst X.K c (CI X.K R) W1 (match stOf x with | some ys => ok (.st (enmOf 0 ys)) h1 | none => none) := p1
    cases x with
    | tup ys =>
      obtain ⟨a, e1, ⟨vs, e2⟩, j⟩ := jr_enT S1 r (.inl rfl)
      exact ⟨a, by rw [e1], .inr ⟨vs, e2, Pst.now p2 S1 _ j⟩⟩
    | ktp ys =>
      obtain ⟨a, e1, ⟨vs, e2⟩, j⟩ := jr_enT S1 r (.inr rfl)
      exact ⟨a, by rw [e1], .inr ⟨vs, e2, Pst.now p2 S1 _ j⟩⟩
    | fls ys =>
      obtain ⟨a, e1, ⟨vs, e2⟩, j⟩ := jr_enL S1 r (.inl rfl)
      exact ⟨a, by rw [e1], .inl ⟨vs, e2, Pst.now p2 S1 _ j⟩⟩
    | frz ys =>
      obtain ⟨a, e1, ⟨vs, e2⟩, j⟩ := jr_enL S1 r (.inr rfl)
      exact ⟨a, by rw [e1], .inl ⟨vs, e2, Pst.now p2 S1 _ j⟩⟩
    | _ => exact p2.elim
  | [], _, _, p1 => exact p1.elim
  | _ :: _ :: _, _, _, p1 => exact p1.elim
end
end Mi
set_option maxHeartbeats 2000000
/-! Mi: dicts whose keys are whole numbers or texts. -/
namespace Mi
open PySem L2
def keyOf : MV → Option Key
  | .int i => some (.inl i)
  | .str x => some (.inr x)
  | _ => none
def valM (kvs : List (Key × MV)) (k : Key) : Option MV := (kvs.find? fun p => decide (p.1 = k)).map (·.2)
def putM (kvs : List (Key × MV)) (k : Key) (v : MV) : List (Key × MV) :=
  if (kvs.any fun p => decide (p.1 = k)) = true then kvs.map (fun p => if p.1 = k then (p.1, v) else p) else kvs ++ [(k, v)]
section
variable {K : PySem.W.Frag} {W : Wd}
theorem key_V {x : MV} {v : V} {k : Key} (r : RV K W x v) (e : keyOf x = some k) : v = kV k := by
  cases x <;> first | (cases e; done) | skip
  · cases e
    rw [rv_int r]
    rfl
  · cases e
    cases r
    rfl
theorem RKV.length : ∀ {ms : List (Key × MV)} {vs : List (Key × V)}, RKV K W ms vs → ms.length = vs.length
  | _, _, .nil => rfl
  | _, _, .cons _ t => by rw [List.length_cons, List.length_cons, RKV.length t]
theorem RKV.val (k : Key) : ∀ {ms : List (Key × MV)} {vs : List (Key × V)}, RKV K W ms vs → (∀ x, valM ms k = some x → ∃ v, valV vs k = some v ∧ RV K W x v) ∧ (valM ms k).isSome = (valV vs k).isSome
  | _, _, .nil => ⟨fun x e => (nomatch e), rfl⟩
  | _, _, .cons (k := j) (x := y) (xs := ms) (vs := vs) r t => by
    obtain ⟨a, b⟩ := RKV.val k t
    by_cases h : j = k
    · have e : valM ((j, y) :: ms) k = some y := by simp [valM, List.find?_cons, h]
      rw [e, valV_pos h]
      exact ⟨fun x z => (by cases z; exact ⟨_, rfl, r⟩), rfl⟩
    · have e : valM ((j, y) :: ms) k = valM ms k := by simp [valM, List.find?_cons, h]
      rw [e, valV_neg h]
      exact ⟨a, b⟩
theorem RKV.any (k : Key) : ∀ {ms : List (Key × MV)} {vs : List (Key × V)}, RKV K W ms vs → (ms.any fun p => decide (p.1 = k)) = vs.any fun p => decide (p.1 = k)
  | _, _, .nil => rfl
  | _, _, .cons r t => by rw [List.any_cons, List.any_cons, RKV.any k t]
theorem RKV.app {k : Key} {x : MV} {v : V} (r : RV K W x v) : ∀ {ms : List (Key × MV)} {vs : List (Key × V)}, RKV K W ms vs → RKV K W (ms ++ [(k, x)]) (vs ++ [(k, v)])
  | _, _, .nil => .cons r .nil
  | _, _, .cons q t => .cons q (RKV.app r t)
theorem RKV.repl {k : Key} {x : MV} {v : V} (r : RV K W x v) : ∀ {ms : List (Key × MV)} {vs : List (Key × V)}, RKV K W ms vs → RKV K W (ms.map fun p => if p.1 = k then (p.1, x) else p) (vs.map fun p => if p.1 = k then (p.1, v) else p)
  | _, _, .nil => .nil
  | _, _, .cons (k := j) q t => by
    rw [List.map_cons, List.map_cons]
    by_cases h : j = k
    · rw [if_pos h, if_pos h]
      exact .cons r (RKV.repl r t)
    · rw [if_neg h, if_neg h]
      exact .cons q (RKV.repl r t)
theorem RKV.put {k : Key} {x : MV} {v : V} {ms : List (Key × MV)} {vs : List (Key × V)} (t : RKV K W ms vs) (r : RV K W x v) : RKV K W (putM ms k x) (putK vs k v) := by
  unfold putM putK
  rw [t.any k]
  by_cases h : (vs.any fun p => decide (p.1 = k)) = true
  · rw [if_pos h, if_pos h]
    exact t.repl r
  · rw [if_neg h, if_neg h]
    exact t.app r
theorem Sim.dictAt {h : MH} (S : Sim K W h) {l : Nat} {kvs : List (Key × MV)} {v : V} (e : h[l]? = some (.dK kvs)) (r : RV K W (.ref l) v) : ∃ a kws, v = .ref a ∧ W.f l = some a ∧ W.H a = some (.dK kws) ∧ RKV K W kvs kws := by
  obtain ⟨a, e1, e2, kws, e3, t⟩ := S.at e (by intro z; cases z) r
  exact ⟨a, kws, e1, e2, e3, t⟩
end
/-! ### d[k], k in d -/
@[simp ↓] def dgetF (x y : MV) (h : MH) : Res MV := match x with
  | .ref l => match h[l]?, keyOf y with
    | some (.dK kvs), some k => match valM kvs k with
      | some v => ok v h
      | none => none
    | _, _ => none
  | _ => none
@[simp ↓] def dinF (y x : MV) (h : MH) : Res MV := match x with
  | .ref l => match h[l]?, keyOf y with
    | some (.dK kvs), some k => ok (.bl (valM kvs k).isSome) h
    | _, _ => none
  | _ => none
@[simp ↓] def dninF (y x : MV) (h : MH) : Res MV := match x with
  | .ref l => match h[l]?, keyOf y with
    | some (.dK kvs), some k => ok (.bl (!(valM kvs k).isSome)) h
    | _, _ => none
  | _ => none
def rDIn : R2 := fun y x H Q => ∃ a o, x = .ref a ∧ DGet H a y o ∧ Q (.bl o.isSome) H
def rDNin : R2 := fun y x H Q => ∃ a o, x = .ref a ∧ DGet H a y o ∧ Q (.bl (!o.isSome)) H
section
variable {X : Cx} {c : XC} {K : PySem.W.Frag} {W : Wd} {o i : Expr} {pos : Pos}
theorem op_din (hu : X.A.units + 64 < cLine) : OpR X (compareOp .In) rDIn := fun pins s σ H y x u v Q I ry rx ⟨a, ov, e, g, q⟩ => by
  subst e
  obtain rfl : v = Value.ref a := rx
  exact d_in (by omega) I g ry fun s3 I3 => ⟨.bl ov.isSome, H, I3, rfl, q⟩
theorem op_dnin (hu : X.A.units + 64 < cLine) : OpR X (compareOp .NotIn) rDNin := fun pins s σ H y x u v Q I ry rx ⟨a, ov, e, g, q⟩ => by
  subst e
  obtain rfl : v = Value.ref a := rx
  exact d_notIn (by omega) I g ry fun s3 I3 => ⟨.bl (!ov.isSome), H, I3, rfl, q⟩
theorem dict_key {h : MH} {l : Nat} {y : MV} {u v : V} {kvs : List (Key × MV)} {k : Key} (S : Sim K W h) (r : RV K W (.ref l) v) (ry : RV K W y u) (e : h[l]? = some (.dK kvs)) (ek : keyOf y = some k) :
    ∃ a kws, v = .ref a ∧ DGet W.H a u (valV kws k) ∧ RKV K W kvs kws := by
  obtain ⟨a, kws, e1, e2, e3, t⟩ := S.dictAt e r
  refine ⟨a, kws, e1, ?_, t⟩
  rw [key_V ry ek]
  exact DGet.k e3
theorem opm_din : OpM K c rDIn dinF := fun W h y x u v Q S ry rx p => by
  unfold dinF at p
  cases x <;> first | exact p.elim | skip
  rename_i l
  dsimp only at p
  cases hl : h[l]? with
  | none =>
    rw [hl] at p
    exact p.elim
  | some ob =>
    cases hk : keyOf y with
    | none =>
      rw [hl, hk] at p
      cases ob <;> exact p.elim
    | some k =>
      rw [hl, hk] at p
      cases ob <;> first | exact p.elim | skip
      rename_i kvs
      obtain ⟨a, kws, e1, g, t⟩ := dict_key S rx ry hl hk
      exact ⟨a, _, e1, g, by rw [← (t.val k).2]; exact Pst.now p S _ (.bl _)⟩
theorem opm_dnin : OpM K c rDNin dninF := fun W h y x u v Q S ry rx p => by
  unfold dninF at p
  cases x <;> first | exact p.elim | skip
  rename_i l
  dsimp only at p
  cases hl : h[l]? with
  | none =>
    rw [hl] at p
    exact p.elim
  | some ob =>
    cases hk : keyOf y with
    | none =>
      rw [hl, hk] at p
      cases ob <;> exact p.elim
    | some k =>
      rw [hl, hk] at p
      cases ob <;> first | exact p.elim | skip
      rename_i kvs
      obtain ⟨a, kws, e1, g, t⟩ := dict_key S rx ry hl hk
      exact ⟨a, _, e1, g, by rw [← (t.val k).2]; exact Pst.now p S _ (.bl _)⟩
theorem em_dget {mo mi : ME} (hu : X.A.units + 64 < cLine) (ho : EM X c o mo) (hi : EM X c i mi) (hs : NoSl i) : EM X c (.Subscript o i pos) (opM dgetF mo mi) := pe_wk (pe_dget (by omega) ho hi hs) fun σ H Q ⟨W, h, s, e, S, rs, p⟩ => by
  subst e
  refine ⟨W, h, s, rfl, S, rs, p.bnd fun W1 h1 x x1 S1 p1 v r1 => ?_⟩
  refine ⟨W1, h1, s, rfl, S1, rs.mono x1, p1.bnd fun W2 h2 y x2 S2 p2 u r2 => ?_⟩
  unfold dgetF at p2
  cases x <;> first | exact p2.elim | skip
  rename_i l
  dsimp only at p2
  cases hl : h2[l]? with
  | none =>
    rw [hl] at p2
    exact p2.elim
  | some ob =>
    cases hk : keyOf y with
    | none =>
      rw [hl, hk] at p2
      cases ob <;> exact p2.elim
    | some k =>
      rw [hl, hk] at p2
      cases ob <;> first | exact p2.elim | skip
      rename_i kvs
      obtain ⟨a, kws, e1, g, t⟩ := dict_key S2 (r1.mono x2) r2 hl hk
      dsimp only at p2
      cases hv : valM kvs k with
      | none =>
        rw [hv] at p2
        exact p2.elim
      | some z =>
        rw [hv] at p2
        obtain ⟨w, e2, rw'⟩ := (t.val k).1 z hv
        rw [e2] at g
        exact ⟨a, w, e1, g, Pst.now p2 S2 _ rw'⟩
end
/-! ### {k: v for ..} -/
def dcS (g : MV → MS → Option MS) (cd : MM Bool) (ke ve : ME) (s0 : MS) (l : Nat) : List MV → MH → Res MV
  | [], h => ok (.ref l) h
  | x :: xs, h => match g x s0 with
    | none => none
    | some s1 => (cd s1 h).bnd fun b h1 => if b = true then (ke s1 h1).bnd fun y h2 => (ve s1 h2).bnd fun z h3 => match keyOf y, h3[l]? with
        | some k, some (.dK kvs) => if kvs.length < lim then dcS g cd ke ve s0 l xs (h3.set l (.dK (putM kvs k z))) else none
        | _, _ => none
      else dcS g cd ke ve s0 l xs h1
@[simp ↓] def dcM (mi : MM MIter) (vs : List Nat) (g : MV → MS → Option MS) (cd : MM Bool) (ke ve : ME) : ME := fun s h => (mi s h).bnd fun it h1 => match it with
  | .st its => dcS g cd ke ve (wipeM s vs) h1.length its (h1 ++ [.dK []])
  | .dyn _ _ => none
section
variable {X : Cx} {c : XC}
theorem dc_of {K : PySem.W.Frag} {vs : List Nat} {mi : MM MIter} {t : TG} {g : MV → MS → Option MS} {cd : MM Bool} {ke ve : ME} (ho : TgC K t g vs) {σ : St} {H : Hp} {Q : VK} (q : tM K c (dcM mi vs g cd ke ve) σ H Q) : tDc (tMI K c mi) t (tMB K c cd) (tM K c ke) (tM K c ve) vs σ H Q := by
  obtain ⟨W, h, s, e, S, rs, p⟩ := q
  subst e
  refine ⟨W, h, s, rfl, S, rs, p.bnd fun W1 h1 it x1 S1 p1 J jr D hD => ?_⟩
  have rs1 : RS K W1 (wipeM s vs) (L2.wipe σ vs) := (rs.mono x1).wipe _
  cases it with
  | dyn l k => exact p1.elim
  | st its =>
    have xa : Ext W1 (W1.add D (.dK [])) := Ext.add S1 hD
    have Sa : Sim K (W1.add D (.dK [])) (h1 ++ [.dK []]) := S1.add hD ⟨[], upd_same, .nil⟩
    have fl : (W1.add D (.dK [])).f h1.length = some D := by
      show (if h1.length = W1.n then some D else W1.f h1.length) = some D
      rw [if_pos S1.n.symm]
    have ln : h1.length < (W1.add D (.dK [])).n := by
      show h1.length < W1.n + 1
      rw [S1.n]
      exact Nat.lt_succ_self _
    have isD : ∀ W' : Wd, Ext (W1.add D (.dK [])) W' → ∀ b, W'.f h1.length = some b → b = D := fun W' x' b hb => by
      rcases x'.agree _ ln with q | q
      · rw [q, fl] at hb
        exact (Option.some.inj hb).symm
      · rw [q] at hb
        cases hb
    refine ⟨fun i n H' => n = its.length - i ∧ i ≤ its.length ∧ ∃ W' h', W'.H = H' ∧ Ext (W1.add D (.dK [])) W' ∧ Sim K W' h' ∧ Pst K c (CV K Q) W1 (dcS g cd ke ve (wipeM s vs) h1.length (its.drop i) h'),
      ⟨its.length, rfl, Nat.zero_le _, _, _, rfl, Ext.refl _, Sa, p1⟩, ?_⟩
    rintro i n H' ⟨hn, hle, W', h', rfl, x', S', p'⟩
    obtain ⟨j1, j2⟩ := jr i W' h' (xa.trans x') S'
    by_cases hi : i < its.length
    · obtain ⟨jg, jy⟩ := j1 its[i] (List.getElem?_eq_getElem hi)
      rw [List.drop_eq_getElem_cons hi] at p'
      refine .inr ⟨jg, fun H2 => ∃ W2 h2, W2.H = H2 ∧ Ext (W1.add D (.dK [])) W2 ∧ Sim K W2 h2 ∧ Pst K c (CV K Q) W1 (dcS g cd ke ve (wipeM s vs) h1.length (its.drop (i + 1)) h2),
        fun H2 w => ⟨its.length - (i + 1), by omega, rfl, by omega, w⟩, fun v H2 y => ?_⟩
      obtain ⟨W2, rfl, x2, S2, r2⟩ := jy v H2 y
      unfold dcS at p'
      cases hg : g its[i] (wipeM s vs) with
      | none =>
        rw [hg] at p'
        exact p'.elim
      | some s1 =>
        rw [hg] at p'
        have x02 := (xa.trans x').trans x2
        refine ho W2 (wipeM s vs) s1 _ its[i] v _ (rs1.mono x02) r2 hg fun σ2 rs2 hw => ⟨hw.trans wipe_wipe, W2, h', s1, rfl, S2, rs2, ?_⟩
        refine Pst.bnd2 p' x02 fun W3 h3 b x3 S3 p3 => ?_
        cases b with
        | false => exact ⟨W3, h3, rfl, (x'.trans x2).trans x3, S3, p3⟩
        | true =>
          refine iteT (B := ∃ W2 h2, W2.H = W3.H ∧ Ext (W1.add D (.dK [])) W2 ∧ Sim K W2 h2 ∧ Pst K c (CV K Q) W1 (dcS g cd ke ve (wipeM s vs) h1.length (its.drop (i + 1)) h2)) ⟨W3, h3, s1, rfl, S3, rs2.mono x3, ?_⟩
          rw [if_pos rfl] at p3
          refine Pst.bnd2 p3 (x02.trans x3) fun W4 h4 ky x4 S4 p4 u r4 => ?_
          refine ⟨W4, h4, s1, rfl, S4, (rs2.mono x3).mono x4, ?_⟩
          refine Pst.bnd2 p4 ((x02.trans x3).trans x4) fun W5 h5 z x5 S5 p5 w r5 => ?_
          cases hk : keyOf ky with
          | none =>
            rw [hk] at p5
            exact p5.elim
          | some k =>
            rw [hk] at p5
            cases hl : h5[h1.length]? with
            | none =>
              rw [hl] at p5
              exact p5.elim
            | some ob =>
              rw [hl] at p5
              cases ob <;> first | exact p5.elim | skip
              rename_i kvs
              have x15 : Ext (W1.add D (.dK [])) W5 := (((x'.trans x2).trans x3).trans x4).trans x5
              obtain ⟨a, ea⟩ := S5.live _ _ hl (by intro z; cases z)
              obtain rfl : a = D := isD W5 x15 a ea
              obtain ⟨o2, e2, ro⟩ := S5.obj _ a ea
              rw [hl] at e2
              cases e2
              obtain ⟨kws, e3, tt⟩ := ro
              dsimp only at p5
              by_cases hlm : kvs.length < lim
              · rw [if_pos hlm] at p5
                have xw : Ext W5 (W5.wr a (.dK (putK kws k w))) := Ext.wr S5 ea
                refine ⟨kws, k, key_V r4 hk |>.trans rfl, e3, Nat.lt_of_lt_of_le (by rw [← tt.length]; exact hlm) (lim_line (Nat.le_refl _)), W5.wr a (.dK (putK kws k w)), _, rfl, x15.trans xw, S5.wr (m := .dK (putM kvs k z)) ea ⟨_, upd_same, (tt.put r5).mono xw⟩, p5⟩
              · rw [if_neg hlm] at p5
                exact p5.elim
    · have e0 : its.drop i = [] := List.drop_eq_nil_of_le (by omega)
      rw [e0] at p'
      refine .inl ⟨j2 (by omega), p' W' (xa.trans x') S' (.ref D) (.ref (Nat.lt_of_lt_of_le ln x'.le) (isD W' x'))⟩
theorem em_dc {kx vx tg iter : Expr} {ifs : List Expr} {scope : Scope} {own : List (Str × Nat)} {pos : Pos} {mi : MM MIter} {t : TG} {g : MV → MS → Option MS} {cd : MM Bool} {ke ve : ME} (ho : TgC X.K t g (own.map (·.2)))
    (h : PE X (.DictComp kx vx [⟨tg, iter, ifs, 0⟩] scope pos) (tDc (tMI X.K c mi) t (tMB X.K c cd) (tM X.K c ke) (tM X.K c ve) (own.map (·.2)))) : EM X c (.DictComp kx vx [⟨tg, iter, ifs, 0⟩] scope pos) (dcM mi (own.map (·.2)) g cd ke ve) := pe_wk h fun _ _ _ q => dc_of ho q
end
end Mi
set_option maxHeartbeats 2000000
/-! Mi: < of tuples of whole numbers. -/
namespace Mi
open PySem L2
@[simp ↓] def ltAF (x y : MV) (h : MH) : Res MV := match x, y with
  | .int i, .int j => ok (.bl (decide (i < j))) h
  | .tup xs, .tup ys => match intsOf xs, intsOf ys with
    | some a, some b => ok (.bl (HT.lexLt a b)) h
    | _, _ => none
  | _, _ => none
def rLtA (K : PySem.W.Frag) : R2 := fun x y H Q => rI0 (fun i j => .bl (decide (i < j))) x y H Q ∨ rLtT K x y H Q
section
variable {X : Cx} {c : XC} {K : PySem.W.Frag}
theorem op_ltA (hu : X.A.units + 64 < cLine) : OpR X (compareOp .Lt) (rLtA X.K) := OpR.or op_lt (op_ltT (by omega))
theorem opm_ltA : OpM K c (rLtA K) ltAF := fun W h x y u v Q S r1 r2 p => by
  cases x <;> first | exact p.elim | skip
  · rename_i i
    cases y <;> first | exact p.elim | skip
    rename_i j
    exact .inl (opm_lt W h (.int i) (.int j) u v Q S r1 r2 p)
  · rename_i xs
    cases y <;> first | exact p.elim | skip
    rename_i ys
    have p' : Pst K c (CV K Q) W (match intsOf xs, intsOf ys with | some a, some b => ok (.bl (HT.lexLt a b)) h | _, _ => none) := p
    cases hx : intsOf xs with
    | none =>
      rw [hx] at p'
      exact p'.elim
    | some ns =>
      cases hy : intsOf ys with
      | none =>
        rw [hx, hy] at p'
        exact p'.elim
      | some ms =>
        rw [hx, hy] at p'
        obtain ⟨a, vs, e1, s1, t1⟩ := tup_sq r1
        obtain ⟨b, ws, e2, s2, t2⟩ := tup_sq r2
        have f1 := (ints_V t1 hx).1
        have f2 := (ints_V t2 hy).1
        subst f1
        subst f2
        exact .inr ⟨a, b, ns, ms, e1, e2, s1, s2, Pst.now p' S _ (.bl _)⟩
end
end Mi
set_option maxHeartbeats 2000000
/-! Mi: two fors in a comprehension (its list is a place of the mirror's heap), bit_length. -/
namespace Mi
open PySem L2
/-- the inner for: items go into place l -/
def liS (g : MV → MS → Option MS) (cd : MM Bool) (el : ME) (s0 : MS) (l : Nat) (k : MH → Res MV) : List MV → MH → Res MV
  | [], h => k h
  | x :: xs, h => match g x s0 with
    | none => none
    | some s1 => (cd s1 h).bnd fun b h1 => if b = true then (el s1 h1).bnd fun y h2 => match h2[l]? with
        | some (.lst zs) => if zs.length < lim then liS g cd el s0 l k xs (h2.set l (.lst (zs ++ [y]))) else none
        | _ => none
      else liS g cd el s0 l k xs h1
def lc2S (g : MV → MS → Option MS) (cd : MM Bool) (mi1 : MM MIter) (vs1 : List Nat) (g1 : MV → MS → Option MS) (cd1 : MM Bool) (el : ME) (s0 : MS) (l : Nat) : List MV → MH → Res MV
  | [], h => ok (.ref l) h
  | x :: xs, h => match g x s0 with
    | none => none
    | some s1 => (cd s1 h).bnd fun b h1 => if b = true then (mi1 s1 h1).bnd fun it h2 => (match it with
      | .st its => liS g1 cd1 el (wipeM s1 vs1) l (lc2S g cd mi1 vs1 g1 cd1 el s0 l xs) its h2
      | .dyn _ _ => none) else lc2S g cd mi1 vs1 g1 cd1 el s0 l xs h1
@[simp ↓] def lc2M (mi : MM MIter) (vs : List Nat) (g : MV → MS → Option MS) (cd : MM Bool) (mi1 : MM MIter) (vs1 : List Nat) (g1 : MV → MS → Option MS) (cd1 : MM Bool) (el : ME) : ME := fun s h => (mi s h).bnd fun it h1 => match it with
  | .st its => lc2S g cd mi1 vs1 g1 cd1 el (wipeM s vs) h1.length its (h1 ++ [.lst []])
  | .dyn _ _ => none
section
variable {X : Cx} {c : XC}
theorem lc2_of {K : PySem.W.Frag} {vs vs1 : List Nat} {mi mi1 : MM MIter} {t t1 : TG} {g g1 : MV → MS → Option MS} {cd cd1 : MM Bool} {el : ME} (ho : TgC K t g vs) (ho1 : TgC K t1 g1 vs1) {σ : St} {H : Hp} {Q : VK} (q : tM K c (lc2M mi vs g cd mi1 vs1 g1 cd1 el) σ H Q) :
    tLc2 (tMI K c mi) t (tMB K c cd) (tMI K c mi1) t1 (tMB K c cd1) (tM K c el) vs vs1 σ H Q := by
  obtain ⟨W, h, s, e, S, rs, p⟩ := q
  subst e
  refine ⟨W, h, s, rfl, S, rs, p.bnd fun W1 h1 it x1 S1 p1 J jr D hD => ?_⟩
  have rs1 : RS K W1 (wipeM s vs) (L2.wipe σ vs) := (rs.mono x1).wipe _
  cases it with
  | dyn l k => exact p1.elim
  | st its =>
    have xa : Ext W1 (W1.add D (.lst [])) := Ext.add S1 hD
    have Sa : Sim K (W1.add D (.lst [])) (h1 ++ [.lst []]) := S1.add hD ⟨[], upd_same, .nil⟩
    have fl : (W1.add D (.lst [])).f h1.length = some D := by
      show (if h1.length = W1.n then some D else W1.f h1.length) = some D
      rw [if_pos S1.n.symm]
    have ln : h1.length < (W1.add D (.lst [])).n := by
      show h1.length < W1.n + 1
      rw [S1.n]
      exact Nat.lt_succ_self _
    have isD : ∀ W' : Wd, Ext (W1.add D (.lst [])) W' → ∀ b, W'.f h1.length = some b → b = D := fun W' x' b hb => by
      rcases x'.agree _ ln with q | q
      · rw [q, fl] at hb
        exact (Option.some.inj hb).symm
      · rw [q] at hb
        cases hb
    refine ⟨fun i n H' => n = its.length - i ∧ i ≤ its.length ∧ ∃ W' h', W'.H = H' ∧ Ext (W1.add D (.lst [])) W' ∧ Sim K W' h' ∧ Pst K c (CV K Q) W1 (lc2S g cd mi1 vs1 g1 cd1 el (wipeM s vs) h1.length (its.drop i) h'),
      ⟨its.length, rfl, Nat.zero_le _, _, _, rfl, Ext.refl _, Sa, p1⟩, ?_⟩
    rintro i n H' ⟨hn, hle, W', h', rfl, x', S', p'⟩
    obtain ⟨j1, j2⟩ := jr i W' h' (xa.trans x') S'
    by_cases hi : i < its.length
    · obtain ⟨jg, jy⟩ := j1 its[i] (List.getElem?_eq_getElem hi)
      rw [List.drop_eq_getElem_cons hi] at p'
      refine .inr ⟨jg, fun H2 => ∃ W2 h2, W2.H = H2 ∧ Ext (W1.add D (.lst [])) W2 ∧ Sim K W2 h2 ∧ Pst K c (CV K Q) W1 (lc2S g cd mi1 vs1 g1 cd1 el (wipeM s vs) h1.length (its.drop (i + 1)) h2),
        fun H2 w => ⟨its.length - (i + 1), by omega, rfl, by omega, w⟩, fun v H2 y => ?_⟩
      obtain ⟨W2, rfl, x2, S2, r2⟩ := jy v H2 y
      unfold lc2S at p'
      cases hg : g its[i] (wipeM s vs) with
      | none =>
        rw [hg] at p'
        exact p'.elim
      | some s1 =>
        rw [hg] at p'
        have x02 := (xa.trans x').trans x2
        refine ho W2 (wipeM s vs) s1 _ its[i] v _ (rs1.mono x02) r2 hg fun σ2 rs2 hw => ⟨hw.trans wipe_wipe, W2, h', s1, rfl, S2, rs2, ?_⟩
        refine Pst.bnd2 p' x02 fun W3 h3 b x3 S3 p3 => ?_
        cases b with
        | false => exact ⟨W3, h3, rfl, (x'.trans x2).trans x3, S3, p3⟩
        | true =>
          refine iteT (B := ∃ W2 h2, W2.H = W3.H ∧ Ext (W1.add D (.lst [])) W2 ∧ Sim K W2 h2 ∧ Pst K c (CV K Q) W1 (lc2S g cd mi1 vs1 g1 cd1 el (wipeM s vs) h1.length (its.drop (i + 1)) h2)) ⟨W3, h3, s1, rfl, S3, rs2.mono x3, ?_⟩
          rw [if_pos rfl] at p3
          have x03 := x02.trans x3
          refine Pst.bnd2 p3 x03 fun W4 h4 it1 x4 S4 p4 J1 jr1 => ?_
          have x14 := ((x'.trans x2).trans x3).trans x4
          cases it1 with
          | dyn l k => exact p4.elim
          | st its1 =>
            have rs4 : RS K W4 (wipeM s1 vs1) (L2.wipe σ2 vs1) := ((rs2.mono x3).mono x4).wipe _
            refine ⟨fun j k H' => k = its1.length - j ∧ j ≤ its1.length ∧ ∃ W5 h5, W5.H = H' ∧ Ext W4 W5 ∧ Sim K W5 h5 ∧ Pst K c (CV K Q) W1 (liS g1 cd1 el (wipeM s1 vs1) h1.length (lc2S g cd mi1 vs1 g1 cd1 el (wipeM s vs) h1.length (its.drop (i + 1))) (its1.drop j) h5),
              ⟨its1.length, rfl, Nat.zero_le _, W4, h4, rfl, Ext.refl _, S4, p4⟩, ?_⟩
            rintro j k H' ⟨hk, hjle, W5, h5, rfl, x5, S5, p5⟩
            obtain ⟨k1, k2⟩ := jr1 j W5 h5 x5 S5
            by_cases hj : j < its1.length
            · obtain ⟨kg, ky⟩ := k1 its1[j] (List.getElem?_eq_getElem hj)
              rw [List.drop_eq_getElem_cons hj] at p5
              unfold liS at p5
              refine .inr ⟨kg, fun H6 => ∃ W6 h6, W6.H = H6 ∧ Ext W4 W6 ∧ Sim K W6 h6 ∧ Pst K c (CV K Q) W1 (liS g1 cd1 el (wipeM s1 vs1) h1.length (lc2S g cd mi1 vs1 g1 cd1 el (wipeM s vs) h1.length (its.drop (i + 1))) (its1.drop (j + 1)) h6),
                fun H6 w => ⟨its1.length - (j + 1), by omega, rfl, by omega, w⟩, fun v1 H6 y1 => ?_⟩
              obtain ⟨W6, rfl, x6, S6, r6⟩ := ky v1 H6 y1
              have x46 := x5.trans x6
              have x06 := (x03.trans x4).trans x46
              cases hg1 : g1 its1[j] (wipeM s1 vs1) with
              | none =>
                rw [hg1] at p5
                exact p5.elim
              | some s2 =>
                rw [hg1] at p5
                refine ho1 W6 _ s2 _ _ v1 _ (rs4.mono x46) r6 hg1 fun σ3 rs3 hw1 => ⟨hw1.trans wipe_wipe, W6, h5, s2, rfl, S6, rs3, ?_⟩
                refine Pst.bnd2 p5 x06 fun W7 h7 b x7 S7 p7 => ?_
                cases b with
                | false => exact ⟨W7, h7, rfl, x46.trans x7, S7, p7⟩
                | true =>
                  refine iteT (B := ∃ W6 h6, W6.H = W7.H ∧ Ext W4 W6 ∧ Sim K W6 h6 ∧ Pst K c (CV K Q) W1 (liS g1 cd1 el (wipeM s1 vs1) h1.length (lc2S g cd mi1 vs1 g1 cd1 el (wipeM s vs) h1.length (its.drop (i + 1))) (its1.drop (j + 1)) h6)) ⟨W7, h7, s2, rfl, S7, rs3.mono x7, ?_⟩
                  rw [if_pos rfl] at p7
                  refine Pst.bnd2 p7 (x06.trans x7) fun W8 h8 y x8 S8 p8 u r8 => ?_
                  cases hl : h8[h1.length]? with
                  | none =>
                    rw [hl] at p8
                    exact p8.elim
                  | some ob =>
                    rw [hl] at p8
                    cases ob <;> first | exact p8.elim | skip
                    rename_i zs
                    have x48 := (x46.trans x7).trans x8
                    have x18 := x14.trans x48
                    obtain ⟨a, ea⟩ := S8.live _ _ hl (by intro z; cases z)
                    obtain rfl : a = D := isD W8 x18 a ea
                    obtain ⟨o2, e2, ro⟩ := S8.obj _ a ea
                    rw [hl] at e2
                    cases e2
                    obtain ⟨ws, e3, tt⟩ := ro
                    dsimp only at p8
                    by_cases hlm : zs.length < lim
                    · rw [if_pos hlm] at p8
                      have xw : Ext W8 (W8.wr a (.lst (ws ++ [u]))) := Ext.wr S8 ea
                      refine ⟨ws, e3, Nat.lt_of_lt_of_le (by rw [← tt.length]; exact hlm) (lim_line (Nat.le_refl _)), W8.wr a (.lst (ws ++ [u])), _, rfl, x48.trans xw, S8.wr (m := .lst (zs ++ [y])) ea ⟨_, upd_same, (tt.append (.one r8)).mono xw⟩, p8⟩
                    · rw [if_neg hlm] at p8
                      exact p8.elim
            · have e0 : its1.drop j = [] := List.drop_eq_nil_of_le (by omega)
              rw [e0] at p5
              exact .inl ⟨k2 (by omega), W5, h5, rfl, x14.trans x5, S5, p5⟩
    · have e0 : its.drop i = [] := List.drop_eq_nil_of_le (by omega)
      rw [e0] at p'
      refine .inl ⟨j2 (by omega), p' W' (xa.trans x') S' (.ref D) (.ref (Nat.lt_of_lt_of_le ln x'.le) (isD W' x'))⟩
theorem em_lc2 {elt tg iter tg1 iter1 : Expr} {ifs ifs1 : List Expr} {scope : Scope} {own : List (Str × Nat)} {vs1 : List Nat} {pos : Pos} {mi mi1 : MM MIter} {t t1 : TG} {g g1 : MV → MS → Option MS} {cd cd1 : MM Bool} {el : ME} (ho : TgC X.K t g (own.map (·.2))) (ho1 : TgC X.K t1 g1 vs1)
    (h : PE X (.ListComp elt [⟨tg, iter, ifs, 0⟩, ⟨tg1, iter1, ifs1, 0⟩] scope pos) (tLc2 (tMI X.K c mi) t (tMB X.K c cd) (tMI X.K c mi1) t1 (tMB X.K c cd1) (tM X.K c el) (own.map (·.2)) vs1)) : EM X c (.ListComp elt [⟨tg, iter, ifs, 0⟩, ⟨tg1, iter1, ifs1, 0⟩] scope pos) (lc2M mi (own.map (·.2)) g cd mi1 vs1 g1 cd1 el) := pe_wk h fun _ _ _ q => lc2_of ho ho1 q
theorem s_lc2 {elt tg iter tg1 iter1 : Expr} {ifs ifs1 : List Expr} {scope : Scope} {own : List (Str × Nat)} {vs1 : List Nat} {pos spos py : Pos} {y : Str} {i : Nat} {mi mi1 : MM MIter} {t t1 : TG} {g g1 : MV → MS → Option MS} {cd cd1 : MM Bool} {el : ME} (ho : TgC X.K t g (own.map (·.2))) (ho1 : TgC X.K t1 g1 vs1)
    (h : PS X (.Assign [.Name y py] (.ListComp elt [⟨tg, iter, ifs, 0⟩, ⟨tg1, iter1, ifs1, 0⟩] scope pos) spos) (tAsg (tLc2 (tMI X.K c mi) t (tMB X.K c cd) (tMI X.K c mi1) t1 (tMB X.K c cd1) (tM X.K c el) (own.map (·.2)) vs1) (gName i))) : SM X c (.Assign [.Name y py] (.ListComp elt [⟨tg, iter, ifs, 0⟩, ⟨tg1, iter1, ifs1, 0⟩] scope pos) spos) (setS i (lc2M mi (own.map (·.2)) g cd mi1 vs1 g1 cd1 el)) :=
  ps_wk h fun D σ H ⟨W, h, s, e, S, rs, p⟩ => by
    subst e
    exact lc2_of ho ho1 ⟨W, h, s, rfl, S, rs, p.bnd fun W1 h1 y x1 S1 p1 v r1 => p1 W1 _ (Ext.refl _) S1 ((rs.mono x1).set r1 i)⟩
theorem frz_of {K : PySem.W.Frag} {m : ME} {σ : St} {H : Hp} {Q : VK} (q : tM K c (frzM m) σ H Q) : tM K c m σ H Q := by
  obtain ⟨W, h, s, e, S, rs, p⟩ := q
  subst e
  refine ⟨W, h, s, rfl, S, rs, p.bnd fun W1 h1 x x1 S1 p1 v r1 => ?_⟩
  cases hf : frzV 4 x h1 with
  | none =>
    rw [hf] at p1
    exact p1.elim
  | some q =>
    rw [hf] at p1
    obtain ⟨W2, T, S2, r2⟩ := frzV_ok 4 x h1 q.1 q.2 W1 v hf S1 r1
    rw [← T.H]
    exact p1 W2 T.x S2 v r2
theorem s_lc2F {elt tg iter tg1 iter1 : Expr} {ifs ifs1 : List Expr} {scope : Scope} {own : List (Str × Nat)} {vs1 : List Nat} {pos spos py : Pos} {y : Str} {i : Nat} {mi mi1 : MM MIter} {t t1 : TG} {g g1 : MV → MS → Option MS} {cd cd1 : MM Bool} {el : ME} (ho : TgC X.K t g (own.map (·.2))) (ho1 : TgC X.K t1 g1 vs1)
    (h : PS X (.Assign [.Name y py] (.ListComp elt [⟨tg, iter, ifs, 0⟩, ⟨tg1, iter1, ifs1, 0⟩] scope pos) spos) (tAsg (tLc2 (tMI X.K c mi) t (tMB X.K c cd) (tMI X.K c mi1) t1 (tMB X.K c cd1) (tM X.K c el) (own.map (·.2)) vs1) (gName i))) : SM X c (.Assign [.Name y py] (.ListComp elt [⟨tg, iter, ifs, 0⟩, ⟨tg1, iter1, ifs1, 0⟩] scope pos) spos) (setS i (frzM (lc2M mi (own.map (·.2)) g cd mi1 vs1 g1 cd1 el))) :=
  ps_wk h fun D σ H ⟨W, h, s, e, S, rs, p⟩ => by
    subst e
    exact lc2_of ho ho1 (frz_of ⟨W, h, s, rfl, S, rs, p.bnd fun W1 h1 y x1 S1 p1 v r1 => p1 W1 _ (Ext.refl _) S1 ((rs.mono x1).set r1 i)⟩)
/-! names that take a list's items -/
@[simp ↓] def unpL (is : List Nat) : MV → MS → Option MS := fun x s => match x with
  | .fls xs => putAll is xs s
  | _ => none
theorem tg_lst {K : PySem.W.Frag} (is : List Nat) : TgM K (gLst K is.length (gNames is)) (unpL is) := fun W s s' σ x v Q rs r e q => by
  cases x <;> first | (cases e; done) | skip
  cases r with
  | fls st e1 t => exact ⟨_, _, rfl, .inl (.inl e1), by rw [← t.length]; exact putAll_len e, tg_all is W s s' σ _ _ Q rs t e q⟩
/-! bit_length -/
@[simp ↓] def bitsM (m : ME) : ME := fun s h => (m s h).bnd fun x h1 => match x with
  | .int i => ok (.int (Builtin.Int.intBits i : Nat)) h1
  | _ => none
theorem em_bits {o : Expr} {apos pos : Pos} {m : ME} (ho : EM X c o m) (hbase : attributeBase o "bit_length" X.env (eval o X.env) = eval o X.env := by rfl) (hline : (apos.endLine == pos.line) = true := by rfl) : EM X c (.Call (.Attribute o "bit_length" apos) [] [] pos) (bitsM m) :=
  pe_wk (pe_bits ho hbase hline) fun σ H Q ⟨W, h, s, e, S, rs, p⟩ => by
    subst e
    refine ⟨W, h, s, rfl, S, rs, p.bnd fun W1 h1 x x1 S1 p1 v r1 => ?_⟩
    cases x <;> first | exact p1.elim | skip
    cases r1
    exact ⟨_, rfl, p1 W1 (Ext.refl _) S1 _ (.int _)⟩
end
end Mi
set_option maxHeartbeats 2000000
/-! Mi: how two fors reckon when their parts leave the heap alone. -/
namespace Mi
open PySem L2
theorem run_nat {n : Nat} : runOf 0 n = (List.range n).map fun (i : Nat) => MV.int (i : Int) := by
  unfold runOf
  exact List.map_congr_left fun i _ => by rw [Int.zero_add]
theorem liS_pure {β : Type} {val : β → MV} {e : β → MV} {g : MV → MS → Option MS} {el : ME} {s0 : MS} {l : Nat} {k : MH → Res MV} : ∀ {xs : List β} {acc : List MV} {h : MH}, h[l]? = some (.lst acc) → (∀ x ∈ xs, ∃ s1, g (val x) s0 = some s1 ∧ ∀ h, el s1 h = ok (e x) h) → acc.length + xs.length ≤ lim →
    liS g yesT el s0 l k (xs.map val) h = k (h.set l (.lst (acc ++ xs.map e)))
  | [], acc, h, hl, _, _ => by
    have : h.set l (.lst acc) = h := by
      obtain ⟨hlt, e⟩ := List.getElem?_eq_some_iff.mp hl
      rw [← e, List.set_getElem_self]
    show k h = _
    rw [List.map_nil, List.append_nil, this]
  | x :: xs, acc, h, hl, hs, hn => by
    obtain ⟨s1, e1, e2⟩ := hs x (List.mem_cons_self ..)
    rw [List.length_cons] at hn
    have ih := liS_pure (g := g) (el := el) (s0 := s0) (l := l) (k := k) (xs := xs) (acc := acc ++ [e x]) (h := h.set l (.lst (acc ++ [e x]))) (get_set hl) (fun y hy => hs y (List.mem_cons_of_mem _ hy)) (by rw [List.length_append]; show acc.length + 1 + xs.length ≤ lim; omega)
    rw [List.set_set, List.append_assoc] at ih
    rw [List.map_cons]
    unfold liS
    rw [e1]
    show (ok true h).bnd _ = _
    rw [bnd_ok, if_pos rfl, e2, bnd_ok, hl]
    dsimp only
    rw [if_pos (by omega), ih]
    rfl
theorem lc2_pure {α β : Type} {val : α → MV} {valy : β → MV} {ys : α → List β} {e : α → β → MV} {g g1 : MV → MS → Option MS} {mi1 : MM MIter} {vs1 : List Nat} {el : ME} {s0 : MS} {l : Nat} : ∀ {xs : List α} {acc : List MV} {h : MH}, h[l]? = some (.lst acc) →
    (∀ x ∈ xs, ∃ s1, g (val x) s0 = some s1 ∧ (∀ h, mi1 s1 h = ok (.st ((ys x).map valy)) h) ∧ ∀ y ∈ ys x, ∃ s2, g1 (valy y) (wipeM s1 vs1) = some s2 ∧ ∀ h, el s2 h = ok (e x y) h) → acc.length + (xs.flatMap fun x => (ys x).map (e x)).length ≤ lim →
    lc2S g yesT mi1 vs1 g1 yesT el s0 l (xs.map val) h = ok (.ref l) (h.set l (.lst (acc ++ xs.flatMap fun x => (ys x).map (e x))))
  | [], acc, h, hl, _, _ => by
    have : h.set l (.lst acc) = h := by
      obtain ⟨hlt, e⟩ := List.getElem?_eq_some_iff.mp hl
      rw [← e, List.set_getElem_self]
    show ok (MV.ref l) h = _
    rw [List.flatMap_nil, List.append_nil, this]
  | x :: xs, acc, h, hl, hs, hn => by
    obtain ⟨s1, e1, e2, e3⟩ := hs x (List.mem_cons_self ..)
    rw [List.flatMap_cons, List.length_append, List.length_map] at hn
    have ih := lc2_pure (g := g) (g1 := g1) (mi1 := mi1) (vs1 := vs1) (el := el) (s0 := s0) (l := l) (e := e) (xs := xs) (acc := acc ++ (ys x).map (e x)) (h := h.set l (.lst (acc ++ (ys x).map (e x)))) (get_set hl) (fun y hy => hs y (List.mem_cons_of_mem _ hy)) (by rw [List.length_append, List.length_map]; omega)
    rw [List.set_set, List.append_assoc] at ih
    rw [List.map_cons]
    unfold lc2S
    rw [e1]
    show (ok true h).bnd _ = _
    rw [bnd_ok, if_pos rfl, e2, bnd_ok]
    show liS g1 yesT el _ _ _ _ _ = _
    rw [liS_pure hl e3 (by omega), ih, List.flatMap_cons]
/-- two fors, frozen at once -/
theorem frz_lc2 {α β : Type} {val : α → MV} {valy : β → MV} {xs : List α} {ys : α → List β} {e : α → β → MV} {g g1 : MV → MS → Option MS} {mi mi1 : MM MIter} {vs vs1 : List Nat} {el : ME} {s : MS} {h : MH} (hm : mi s h = ok (.st (xs.map val)) h)
    (hs : ∀ x ∈ xs, ∃ s1, g (val x) (wipeM s vs) = some s1 ∧ (∀ h, mi1 s1 h = ok (.st ((ys x).map valy)) h) ∧ ∀ y ∈ ys x, ∃ s2, g1 (valy y) (wipeM s1 vs1) = some s2 ∧ ∀ h, el s2 h = ok (e x y) h) (hn : (xs.flatMap fun x => (ys x).map (e x)).length ≤ lim) (hf : ∀ x ∈ xs, ∀ y ∈ ys x, flatT (e x y) = true) :
    frzM (lc2M mi vs g yesT mi1 vs1 g1 yesT el) s h = ok (.fls (xs.flatMap fun x => (ys x).map (e x))) (h ++ [.dead]) := by
  have e1 := lc2_pure (g := g) (g1 := g1) (mi1 := mi1) (vs1 := vs1) (el := el) (s0 := wipeM s vs) (l := h.length) (e := e) (xs := xs) (val := val) (ys := ys) (valy := valy) (acc := []) (h := h ++ [.lst []]) get_app hs (by simpa using hn)
  have e2 : (h ++ [MO.lst []]).set h.length (.lst ([] ++ xs.flatMap fun x => (ys x).map (e x))) = h ++ [.lst (xs.flatMap fun x => (ys x).map (e x))] := by
    rw [List.set_append_right _ _ (Nat.le_refl _), Nat.sub_self]
    rfl
  rw [e2] at e1
  have fl : (xs.flatMap fun x => (ys x).map (e x)).all flatT = true := by
    rw [List.all_eq_true]
    intro z hz
    obtain ⟨x, hx, hz⟩ := List.mem_flatMap.mp hz
    obtain ⟨y, hy, rfl⟩ := List.mem_map.mp hz
    exact hf x hx y hy
  have e3 := frz_lst (h := h ++ [.lst (xs.flatMap fun x => (ys x).map (e x))]) (l := h.length) 2 get_app fl
  have e4 : (h ++ [MO.lst (xs.flatMap fun x => (ys x).map (e x))]).set h.length .dead = h ++ [.dead] := by
    rw [List.set_append_right _ _ (Nat.le_refl _), Nat.sub_self]
    rfl
  rw [e4] at e3
  show ((lc2M mi vs g yesT mi1 vs1 g1 yesT el s h).bnd _) = _
  unfold lc2M
  rw [hm, bnd_ok]
  dsimp only
  rw [e1, bnd_ok, e3]
end Mi
namespace Mi
/-- a new row behind the others -/
theorem Mat.push {h : MH} {R lo : Nat} {rows : List (List MV)} {rs : List Nat} (M : Mat h R rows lo rs) {ys : List MV} (hlo : lo ≤ h.length) : Mat ((h ++ [MO.lst ys]).set R (MO.lst (rs.map MV.ref ++ [MV.ref h.length]))) R (rows ++ [ys]) lo (rs ++ [h.length]) := by
  have new : ∀ r ∈ rs, r < h.length := fun r hr => by
    obtain ⟨i, hi⟩ := List.getElem?_of_mem hr
    obtain ⟨xs, hx⟩ : ∃ xs, rows[i]? = some xs := ⟨_, List.getElem?_eq_getElem (by rw [← M.len]; exact (List.getElem?_eq_some_iff.mp hi).1)⟩
    exact at_len (M.row i r xs hi hx)
  have nR : R ≠ h.length := Nat.ne_of_lt (at_len M.top)
  have nin : h.length ∉ rs := fun z => Nat.lt_irrefl _ (new _ z)
  refine ⟨?_, by rw [List.length_append, List.length_append, M.len]; rfl, ?_, fun z => ?_, M.loR, fun r hr => ?_, fun k r zs hr hz => ?_⟩
  · rw [get_set (get_app_left M.top), List.map_append]
    rfl
  · refine List.nodup_append.mpr ⟨M.nd, List.nodup_cons.mpr ⟨(fun z => nomatch z), List.nodup_nil⟩, fun a ha b hb e => ?_⟩
    obtain rfl := List.mem_singleton.mp hb
    exact nin (e ▸ ha)
  · rcases List.mem_append.mp z with z | z
    · exact M.no z
    · exact nR (List.mem_singleton.mp z)
  · rcases List.mem_append.mp hr with z | z
    · exact M.lor r z
    · rw [List.mem_singleton.mp z]
      exact hlo
  · by_cases hk : k < rs.length
    · rw [List.getElem?_append_left hk] at hr
      rw [List.getElem?_append_left (by rw [← M.len]; exact hk)] at hz
      exact get_set_ne (get_app_left (M.row k r zs hr hz)) fun z => M.no (by rw [← z]; exact List.mem_of_getElem? hr)
    · have e : k = rs.length := by
        have := (List.getElem?_eq_some_iff.mp hr).1
        rw [List.length_append] at this
        have t : k < rs.length + 1 := this
        omega
      subst e
      rw [List.getElem?_append_right (Nat.le_refl _), Nat.sub_self] at hr
      rw [List.getElem?_append_right (by rw [M.len]; exact Nat.le_refl _), M.len, Nat.sub_self] at hz
      cases hr
      cases hz
      exact get_set_ne get_app (Ne.symm nR)
theorem mat_nil {h : MH} : Mat (h ++ [MO.lst []]) h.length [] h.length [] := ⟨get_app, rfl, List.nodup_nil, (fun z => nomatch z), Nat.le_refl _, (fun _ z => nomatch z), fun i r xs hr _ => by simp at hr⟩
theorem set_app {h : MH} {o u : MO} : (h ++ [o]).set h.length u = h ++ [u] := by
  rw [List.set_append_right _ _ (Nat.le_refl _), Nat.sub_self]
  rfl
theorem tb_add {α : Type} {F : Nat → α} {a : Nat} : ∀ {b : Nat}, tb (a + b) F = tb a F ++ tb b fun i => F (a + i)
  | 0 => by simp [tb]
  | b + 1 => by rw [← Nat.add_assoc, tb_succ, tb_add, tb_succ, List.append_assoc]
end Mi
set_option maxHeartbeats 2000000
/-! Mi: in, by values of any depth; list.insert. -/
namespace Mi
open PySem L2
@[simp ↓] def insF (x : MV) (ys : List MV) (h : MH) : Res MV := match x, ys with
  | .ref l, [.int i, y] => match h[l]? with
    | some (.lst xs) => if xs.length < lim ∧ 0 ≤ i ∧ i ≤ 1000000 then ok .non (h.set l (.lst (xs.take i.toNat ++ [y] ++ xs.drop i.toNat))) else none
    | _ => none
  | _, _ => none
def inDB (h : MH) (x y : MV) : Option Bool := match pyOf x, (seqOf h y).bind pysOf with
  | some d, some ds => if SeqAt.shaped d = true ∧ SeqAt.shaped (.list ds) = true then some (ds.any fun z => PyData.eqv z d) else none
  | _, _ => none
@[simp ↓] def inDF (x y : MV) (h : MH) : Res MV := match inDB h x y with
  | some b => ok (.bl b) h
  | none => none
@[simp ↓] def ninDF (x y : MV) (h : MH) : Res MV := match inDB h x y with
  | some b => ok (.bl (!b)) h
  | none => none
section
variable {X : Cx} {c : XC} {K : PySem.W.Frag} {W : Wd}
theorem units65 {k : Nat} {A : Around} (r : Room k A) : A.units + 65 < cLine := by
  have := r.un
  omega
def rInsert : V → List V → Hp → VK → Prop := fun x vs H Q => ∃ (l : Addr) (xs : List V) (i : Int) (y : V), x = .ref l ∧ vs = [.int i, y] ∧ H l = some (.lst xs) ∧ xs.length < sizeLine ∧ 0 ≤ i ∧ i < 2 ^ 63 ∧ Q .non (upd H l (.lst (xs.take i.toNat ++ [y] ++ xs.drop i.toNat)))
theorem mt_ins : MtR X "list.insert" rInsert := mt_insert
theorem mm_ins : MthM K c rInsert insF := fun W h x ys v vs Q S r rs p => by
  unfold insF at p
  split at p
  · rename_i l i y
    obtain ⟨u1, u, rfl, ri, ry⟩ := rvs_two rs
    cases hl : h[l]? with
    | none =>
      rw [hl] at p
      exact p.elim
    | some o =>
      rw [hl] at p
      cases o with
      | dead => exact p.elim
      | dK kvs => exact p.elim
      | ins cn kvs => exact p.elim
      | lst xs =>
        dsimp only at p
        by_cases q : xs.length < lim ∧ 0 ≤ i ∧ i ≤ 1000000
        · rw [if_pos q] at p
          obtain ⟨a, ws, rfl, e2, e3, t⟩ := S.lstAt hl r
          refine ⟨a, ws, i, u, rfl, by rw [rv_int ri], e3, Nat.lt_of_lt_of_le (by rw [← t.length]; exact q.1) (lim_line (Nat.le_refl _)), q.2.1, by omega, ?_⟩
          exact p (W.wr a (.lst (ws.take i.toNat ++ [u] ++ ws.drop i.toNat))) (Ext.wr S e2) (S.wr e2 ⟨_, upd_same, (((t.take _).append (.one ry)).append (t.drop _)).mono (Ext.wr S e2)⟩) _ .non
        · rw [if_neg q] at p
          exact p.elim
  · exact p.elim
/-! in -/
def rInT (K : PySem.W.Frag) (n : Bool) : R2 := fun x y H Q => ∃ d ds, Dp K H x d ∧ Dp K H y (.tuple ds) ∧ SeqAt.shaped d = true ∧ SeqAt.shaped (.list ds) = true ∧ Q (.bl (if n then !ds.any fun z => PyData.eqv z d else ds.any fun z => PyData.eqv z d)) H
theorem op_inT (hu : X.A.units + 65 < cLine) : OpR X (compareOp .In) (rInT X.K false) := by
  intro pins s σ H x y v u Q I rx ry h
  obtain ⟨d, ds, hd, he, sd, se, q⟩ := h
  obtain ⟨as, r1⟩ := Dp.reads I d x v hd rx
  obtain ⟨bs, r2⟩ := Dp.reads I (.tuple ds) y u he ry
  exact SeqAt.in_tuple_reads r2 r1 (SeqAt.canLay_of_shaped se) (SeqAt.canLay_of_shaped sd) (PyProof.Rows.room_in_shaped sd hu) ⟨.bl _, H, I, rfl, q⟩
theorem op_ninT (hu : X.A.units + 65 < cLine) : OpR X (compareOp .NotIn) (rInT X.K true) := by
  intro pins s σ H x y v u Q I rx ry h
  obtain ⟨d, ds, hd, he, sd, se, q⟩ := h
  obtain ⟨as, r1⟩ := Dp.reads I d x v hd rx
  obtain ⟨bs, r2⟩ := Dp.reads I (.tuple ds) y u he ry
  exact SeqAt.notIn_tuple_reads r2 r1 (SeqAt.canLay_of_shaped se) (SeqAt.canLay_of_shaped sd) (PyProof.Rows.room_in_shaped sd hu) ⟨.bl _, H, I, rfl, q⟩
def rInA (K : PySem.W.Frag) : R2 := fun x y H Q => rInD K x y H Q ∨ rInT K false x y H Q
def rNinA (K : PySem.W.Frag) : R2 := fun x y H Q => rNotInD K x y H Q ∨ rInT K true x y H Q
theorem op_inA (hu : X.A.units + 65 < cLine) : OpR X (compareOp .In) (rInA X.K) := OpR.or (op_inD hu) (op_inT hu)
theorem op_ninA (hu : X.A.units + 65 < cLine) : OpR X (compareOp .NotIn) (rNinA X.K) := OpR.or (op_notInD hu) (op_ninT hu)
theorem inDB_dp {h : MH} {x y : MV} {u v : V} {b : Bool} (S : Sim K W h) (r1 : RV K W x u) (r2 : RV K W y v) (e : inDB h x y = some b) :
    ∃ d ds, Dp K W.H u d ∧ (Dp K W.H v (.list ds) ∨ Dp K W.H v (.tuple ds)) ∧ SeqAt.shaped d = true ∧ SeqAt.shaped (.list ds) = true ∧ (ds.any fun z => PyData.eqv z d) = b := by
  unfold inDB at e
  cases h1 : pyOf x with
  | none =>
    rw [h1] at e
    cases e
  | some d =>
    cases h2 : seqOf h y with
    | none =>
      rw [h1, h2] at e
      cases e
    | some xs =>
      cases h3 : pysOf xs with
      | none =>
        rw [h1, h2, Option.bind_some, h3] at e
        cases e
      | some ds =>
        rw [h1, h2, Option.bind_some, h3] at e
        have e' : (if SeqAt.shaped d = true ∧ SeqAt.shaped (.list ds) = true then some (ds.any fun z => PyData.eqv z d) else none) = some b := e
        by_cases q : SeqAt.shaped d = true ∧ SeqAt.shaped (.list ds) = true
        · rw [if_pos q] at e'
          obtain ⟨a, vs, e1, e2, t⟩ := seq_sq S r2 h2
          subst e1
          have da := pys_dp t h3
          refine ⟨d, ds, py_dp r1 h1, ?_, q.1, q.2, Option.some.inj e'⟩
          rcases e2 with e2 | e2
          · exact .inl (.lst e2 da)
          · exact .inr (.tup e2 da)
        · rw [if_neg q] at e'
          cases e'
theorem opm_inA : OpM K c (rInA K) inDF := fun W h x y u v Q S r1 r2 p => by
  unfold inDF at p
  cases e : inDB h x y with
  | none =>
    rw [e] at p
    exact p.elim
  | some b =>
    rw [e] at p
    obtain ⟨d, ds, a1, a2, a3, a4, a5⟩ := inDB_dp S r1 r2 e
    rcases a2 with a2 | a2
    · exact .inl ⟨d, ds, a1, a2, a3, a4, by rw [a5]; exact p.now S _ (.bl _)⟩
    · exact .inr ⟨d, ds, a1, a2, a3, a4, by rw [if_neg Bool.false_ne_true, a5]; exact p.now S _ (.bl _)⟩
theorem opm_ninA : OpM K c (rNinA K) ninDF := fun W h x y u v Q S r1 r2 p => by
  unfold ninDF at p
  cases e : inDB h x y with
  | none =>
    rw [e] at p
    exact p.elim
  | some b =>
    rw [e] at p
    obtain ⟨d, ds, a1, a2, a3, a4, a5⟩ := inDB_dp S r1 r2 e
    rcases a2 with a2 | a2
    · exact .inl ⟨d, ds, a1, a2, a3, a4, by rw [a5]; exact p.now S _ (.bl _)⟩
    · exact .inr ⟨d, ds, a1, a2, a3, a4, by rw [if_pos rfl, a5]; exact p.now S _ (.bl _)⟩
end
end Mi
set_option maxHeartbeats 2000000
/-! Mi: exceptions: calls that may let one out, raise. -/
namespace Mi
open PySem L2
/-- a wish of exceptions that the context takes -/
abbrev Tk (X : Cx) (E : XK) : Prop := Takes X (fun cls d _ H => E cls d H)
theorem tk_pass {X : Cx} {E : XK} (tk : Tk X E) : Passes (L2.CX X.prog X.w) X E := passes_call tk fun _ _ _ _ h => h
@[simp ↓] def callX (f : MF) (ds : List MV) (a : MM (List MV)) : ME := fun s h => (a s h).bnd fun xs h1 => f (xs ++ ds) h1
@[simp ↓] def callKX (f : MF) (n k : Nat) (is : List Nat) (ds : List MV) (a kw : MM (List MV)) : ME := fun s h => (a s h).bnd fun xs h1 => (kw s h1).bnd fun zs h2 => if xs.length = n ∧ zs.length = k then f (pick is (xs ++ zs ++ ds)) h2 else none
section
variable {X : Cx} {c : XC} {E : XK} {k : Nat} {f : Addr} {fd : FuncData} {ps : List Str} {ds : List Value} {dvs : List V} {dms : List MV} {x : Str} {p pos : Pos} {e : Expr} {es : List Expr} {m : MM (List MV)} {np : Nat} {fM : MF}
theorem len_of {r : Res MV} {K : PySem.W.Frag} {C : Wd → MV → Prop} {W : Wd} {xs : List MV} {h : MH} (hn : ∀ xs h, (fM xs h).isSome = true → xs.length = np) (p : Pst K c C W (fM xs h)) : xs.length = np := by
  cases hf : fM xs h with
  | none =>
    rw [hf] at p
    exact p.elim
  | some o => exact hn _ h (by rw [hf]; rfl)
theorem len_ofN {K : PySem.W.Frag} {C : Wd → MV → Prop} {W : Wd} {xs : List MV} {h : MH} (hn : ∀ xs h, (fM xs h).isSome = true → xs.length = np) (p : Pst K c C W (noex (fM xs h))) : xs.length = np := by
  cases hf : fM xs h with
  | none =>
    rw [hf] at p
    exact p.elim
  | some o => exact hn _ h (by rw [hf]; rfl)
/-- f(e, ..), f may raise, but does not here -/
theorem em_callN (F : FnOk X.prog X.w X.K X.mg X.base (L2.CX X.prog X.w) k f fd ps (spM X.K X.mg np fM)) (hn : ∀ xs h, (fM xs h).isSome = true → xs.length = np) (hr : Room k X.A) (hg : Gl X x) (hm : X.mg x = some (.ref f)) (hk : PySem.W.keepIn X.K (.ref f) = true) (hb : Binds X.K fd ps ds) (hd : Vals dvs ds)
    (hd2 : ∀ W, RVs X.K W dms dvs) (ha : AM X c (e :: es) m) (hdb : (x == ("__debug__" : Str)) = false := by decide) (hs : starEach (e :: es) X.env = (false, eval e X.env) :: starEach es X.env := by rfl) (hpl : (backTo pos (starEach es X.env)).any (·.1) = false := by rfl) :
    EM X c (.Call (.Name x p) (e :: es) [] pos) (callM fM dms m) := pe_wk (pe_call F hr hg hm hk hb hd passL ha hdb hs hpl) fun σ H Q q => tCall_of hd2 hn q
theorem em_callN0 (F : FnOk X.prog X.w X.K X.mg X.base (L2.CX X.prog X.w) k f fd ps (spM X.K X.mg np fM)) (hn : ∀ xs h, (fM xs h).isSome = true → xs.length = np) (hr : Room k X.A) (hg : Gl X x) (hm : X.mg x = some (.ref f)) (hk : PySem.W.keepIn X.K (.ref f) = true) (hb : Binds X.K fd ps ds) (hd : Vals dvs ds)
    (hd2 : ∀ W, RVs X.K W dms dvs) (hdb : (x == ("__debug__" : Str)) = false := by decide) : EM X c (.Call (.Name x p) [] [] pos) (callM fM dms nilA) := pe_wk (pe_call0 F hr hg hm hk hb hd passL hdb) fun σ H Q ⟨W, h, s, eW, S, rs, q⟩ => by
  subst eW
  have q' : Pst X.K c (CV X.K Q) W (noex (fM ([] ++ dms) h)) := q
  exact ⟨W, h, dms, rfl, S, hd2 W, len_ofN hn q', noex_ok q'⟩
/-- .. what it raises goes on -/
theorem em_callX (tk : Tk X E) (F : FnOk X.prog X.w X.K X.mg X.base (L2.CX X.prog X.w) k f fd ps (spM X.K X.mg np fM)) (hn : ∀ xs h, (fM xs h).isSome = true → xs.length = np) (hr : Room k X.A) (hg : Gl X x) (hm : X.mg x = some (.ref f)) (hk : PySem.W.keepIn X.K (.ref f) = true) (hb : Binds X.K fd ps ds)
    (hd : Vals dvs ds) (hd2 : ∀ W, RVs X.K W dms dvs) (ha : AM X ⟨X.mg, E⟩ (e :: es) m) (hdb : (x == ("__debug__" : Str)) = false := by decide) (hs : starEach (e :: es) X.env = (false, eval e X.env) :: starEach es X.env := by rfl) (hpl : (backTo pos (starEach es X.env)).any (·.1) = false := by rfl) :
    EM X ⟨X.mg, E⟩ (.Call (.Name x p) (e :: es) [] pos) (callX fM dms m) := pe_wk (pe_call F hr hg hm hk hb hd (tk_pass tk) ha hdb hs hpl) fun σ H Q ⟨W, h, s, eW, S, rs, q⟩ => by
  subst eW
  refine ⟨W, h, s, rfl, S, rs, q.bnd fun W1 h1 xs x1 S1 p1 vs r1 => ?_⟩
  exact ⟨W1, h1, xs ++ dms, rfl, S1, r1.append (hd2 W1), len_of (r := none) hn p1, p1⟩
theorem em_callX0 (tk : Tk X E) (F : FnOk X.prog X.w X.K X.mg X.base (L2.CX X.prog X.w) k f fd ps (spM X.K X.mg np fM)) (hn : ∀ xs h, (fM xs h).isSome = true → xs.length = np) (hr : Room k X.A) (hg : Gl X x) (hm : X.mg x = some (.ref f)) (hk : PySem.W.keepIn X.K (.ref f) = true) (hb : Binds X.K fd ps ds)
    (hd : Vals dvs ds) (hd2 : ∀ W, RVs X.K W dms dvs) (hdb : (x == ("__debug__" : Str)) = false := by decide) : EM X ⟨X.mg, E⟩ (.Call (.Name x p) [] [] pos) (callX fM dms nilA) := pe_wk (pe_call0 F hr hg hm hk hb hd (tk_pass tk) hdb) fun σ H Q ⟨W, h, s, eW, S, rs, q⟩ => by
  subst eW
  have q' : Pst X.K ⟨X.mg, E⟩ (CV X.K Q) W (fM ([] ++ dms) h) := q
  exact ⟨W, h, dms, rfl, S, hd2 W, len_of (r := none) hn q', q'⟩
/-- f(k = v, ..): keywords alone, f may raise -/
theorem pe_kwG {CX : CXT} {ks : List Str} {sp : Sp} {kws : List Keyword} {tk : TA} {g : List Value → List Value → List Value} {gV : List V → List V → List V} (F : FnOk X.prog X.w X.K X.mg X.base CX k f fd ps sp) (hx : Passes CX X E) (hr : Room k X.A) (hg : Gl X x) (hm : X.mg x = some (.ref f))
    (hk : PySem.W.keepIn X.K (.ref f) = true) (hb : KBn X.K fd ps 0 ks g gV) (hkw : PK X kws tk) (hall : (backToKw pos (keywordEach kws X.env)).all (·.1.isSome) = true := by rfl) (hks : (backToKw pos (keywordEach kws X.env)).filterMap (·.1) = ks := by rfl)
    (hdb : (x == ("__debug__" : Str)) = false := by decide) (hpl : ((backTo pos (starEach [] X.env)).any (·.1) || (backToKw pos (keywordEach kws X.env)).any (·.1.isNone)) = false := by rfl) :
    PE X (.Call (.Name x p) [] kws pos) (tCallN 0 ks.length sp gV E tNil tk) := by
  refine ⟨fun pins s σ H Q I h => wpAny_Call_Name_kw (ld_glob I hg hm ?_ hdb)⟩
  refine PySem.W.callWith_KW0 (h₀ := X.base) I.ok.mod.kin hk hall (thn (hkw.run pos pins s σ H _ I h) fun ws s2 hh => ?_) hpl
  obtain ⟨zs, H2, I2, rz, l1, l2, q2⟩ := hh
  refine ⟨I2.kIn, ?_⟩
  rw [hks]
  exact run_fnN (us := []) F hr hb hx I2 .nil rz l1 l2 q2
theorem em_callKN0 {kk : Nat} {ks : List Str} {kws : List Keyword} {mk : MM (List MV)} {is : List Nat} {g : List Value → List Value → List Value} (F : FnOk X.prog X.w X.K X.mg X.base (L2.CX X.prog X.w) k f fd ps (spM X.K X.mg np fM)) (hn : ∀ xs h, (fM xs h).isSome = true → xs.length = np) (hr : Room k X.A) (hg : Gl X x)
    (hm : X.mg x = some (.ref f)) (hk : PySem.W.keepIn X.K (.ref f) = true) (hb : KBn X.K fd ps 0 ks g (fun vs zs => pick is (vs ++ zs ++ dvs))) (hd2 : ∀ W, RVs X.K W dms dvs) (hkw : KM X c kws mk) (hkk : ks.length = kk := by rfl) (hall : (backToKw pos (keywordEach kws X.env)).all (·.1.isSome) = true := by rfl)
    (hks : (backToKw pos (keywordEach kws X.env)).filterMap (·.1) = ks := by rfl) (hdb : (x == ("__debug__" : Str)) = false := by decide) (hpl : ((backTo pos (starEach [] X.env)).any (·.1) || (backToKw pos (keywordEach kws X.env)).any (·.1.isNone)) = false := by rfl) :
    EM X c (.Call (.Name x p) [] kws pos) (callKM fM 0 kk is dms nilA mk) := pe_wk (pe_kwG F passL hr hg hm hk hb hkw hall hks hdb hpl) fun σ H Q ⟨W, h, s, eW, S, rs, q⟩ => by
  subst eW
  subst hkk
  have p' : Pst X.K c (CV X.K Q) W ((mk s h).bnd fun zs h2 => if ([] : List MV).length = 0 ∧ zs.length = ks.length then noex (fM (pick is ([] ++ zs ++ dms)) h2) else none) := q
  refine ⟨W, h, s, rfl, S, rs, p'.bnd fun W2 h2 zs x2 S2 p2 ws r2 => ?_⟩
  by_cases z : ([] : List MV).length = 0 ∧ zs.length = ks.length
  · rw [if_pos z] at p2
    exact ⟨rfl, by rw [← r2.length]; exact z.2, W2, h2, _, rfl, S2, (((RVs.nil).append r2).append (hd2 W2)).pick is, len_ofN hn p2, noex_ok p2⟩
  · rw [if_neg z] at p2
    exact p2.elim
theorem em_callKX0 {kk : Nat} {ks : List Str} {kws : List Keyword} {mk : MM (List MV)} {is : List Nat} {g : List Value → List Value → List Value} (tk : Tk X E) (F : FnOk X.prog X.w X.K X.mg X.base (L2.CX X.prog X.w) k f fd ps (spM X.K X.mg np fM)) (hn : ∀ xs h, (fM xs h).isSome = true → xs.length = np) (hr : Room k X.A)
    (hg : Gl X x) (hm : X.mg x = some (.ref f)) (hk : PySem.W.keepIn X.K (.ref f) = true) (hb : KBn X.K fd ps 0 ks g (fun vs zs => pick is (vs ++ zs ++ dvs))) (hd2 : ∀ W, RVs X.K W dms dvs) (hkw : KM X ⟨X.mg, E⟩ kws mk) (hkk : ks.length = kk := by rfl) (hall : (backToKw pos (keywordEach kws X.env)).all (·.1.isSome) = true := by rfl)
    (hks : (backToKw pos (keywordEach kws X.env)).filterMap (·.1) = ks := by rfl) (hdb : (x == ("__debug__" : Str)) = false := by decide) (hpl : ((backTo pos (starEach [] X.env)).any (·.1) || (backToKw pos (keywordEach kws X.env)).any (·.1.isNone)) = false := by rfl) :
    EM X ⟨X.mg, E⟩ (.Call (.Name x p) [] kws pos) (callKX fM 0 kk is dms nilA mk) := pe_wk (pe_kwG F (tk_pass tk) hr hg hm hk hb hkw hall hks hdb hpl) fun σ H Q ⟨W, h, s, eW, S, rs, q⟩ => by
  subst eW
  subst hkk
  have p' : Pst X.K ⟨X.mg, E⟩ (CV X.K Q) W ((mk s h).bnd fun zs h2 => if ([] : List MV).length = 0 ∧ zs.length = ks.length then fM (pick is ([] ++ zs ++ dms)) h2 else none) := q
  refine ⟨W, h, s, rfl, S, rs, p'.bnd fun W2 h2 zs x2 S2 p2 ws r2 => ?_⟩
  by_cases z : ([] : List MV).length = 0 ∧ zs.length = ks.length
  · rw [if_pos z] at p2
    exact ⟨rfl, by rw [← r2.length]; exact z.2, W2, h2, _, rfl, S2, (((RVs.nil).append r2).append (hd2 W2)).pick is, len_of (r := none) hn p2, p2⟩
  · rw [if_neg z] at p2
    exact p2.elim
end
/-! ### defs that may raise -/
section
variable {P : Program} {w : World} {K : PySem.W.Frag} {mg : Str → Option Value} {base : Heap}
theorem fn_mirX {x qual : Str} {st : Stmt} {f : Addr} {fd : FuncData} {N ps : List Str} {k : Nat} {m : MT} (F : Fun K x qual st f fd) (S : FnScope N ps (defScope st))
    (hb : ∀ (cdv : Value) (A : Around) (outer : List Env) (s : Shared) (H : Hp) (E : XK), Room k (A.deeper (PyProof.Rows.envOfC qual (defScope st) s.heap.objs.size f cdv)) → Tk (cxOf (L2.CX P w) P w K mg base N qual (defScope st) f cdv A outer s H E) E →
      SsM (cxOf (L2.CX P w) P w K mg base N qual (defScope st) f cdv A outer s H E) ⟨mg, E⟩ (defBody st) m) : FnOk P w K mg base (L2.CX P w) (k + 1) f fd ps (spM K mg ps.length (defM ps.length N.length m)) := by
  refine F.okX S (fun vs H Q E h => ?_) (fun cdv A outer s H vs Q E hr h => ?_)
  · obtain ⟨W, h, xs, _, _, r, hl, _⟩ := h
    rw [← r.length, hl]
  · exact ⟨_, hb cdv A outer s H E hr (takes_of rfl rfl rfl rfl), body_ok h⟩
end
/-! ### raise -/
@[simp ↓] def raiseS (cls : Str) (fns : List Str) (a : MM (List MV)) : MT := fun s h => bndS (a s h) fun xs h1 => if xs.length = fns.length then some (.ex ⟨cls, fns.zip xs⟩ h1) else none
/-- C(e, ..), whose own __init__ keeps the values under the names fns -/
def tMkF (C : Addr) (fns : List Str) (ta : TA) : St → Hp → XK → Prop := fun σ H Q => ta σ H fun vs H1 => vs.length = fns.length ∧ ∀ d, H1 d = none → Q (.ref C) (some d) (upd H1 d (.xd (fns.zip vs)))
theorem rf_zip {K : PySem.W.Frag} {W : Wd} : ∀ {xs : List MV} {vs : List V} (fns : List Str), RVs K W xs vs → RF K W (fns.zip xs) (fns.zip vs)
  | _, _, [], _ => .nil
  | _, _, _ :: _, .nil => .nil
  | _, _, f :: fns, .cons r t => .cons r (rf_zip fns t)
section
variable {X : Cx} {E : XK} {e : Expr} {pos : Pos} {cls : Str} {C : Addr}
theorem s_raise0 (hc : X.calm = true) (tk : Tk X E) (hcl : X.mg cls = some (.ref C)) (he : PMk X e fun _ H Q => Q (.ref C) none H) : SM X ⟨X.mg, E⟩ (.Raise (some e) none pos) (raiseS cls [] nilA) := ps_wk (ps_raise hc tk he) fun D σ H ⟨W, h, s, eW, S, rs, p⟩ => by
  subst eW
  exact p W (.ref C) none (Ext.refl W) S ⟨hcl, [], .nil, .inl ⟨rfl, rfl⟩⟩
theorem s_raiseD {fns : List Str} {m : MM (List MV)} (hc : X.calm = true) (tk : Tk X E) (hcl : X.mg cls = some (.ref C)) (he : PMk X e (tMkF C fns (tMA X.K ⟨X.mg, E⟩ m))) : SM X ⟨X.mg, E⟩ (.Raise (some e) none pos) (raiseS cls fns m) := ps_wk (ps_raise hc tk he) fun D σ H ⟨W, h, s, eW, S, rs, p⟩ => by
  subst eW
  refine ⟨W, h, s, rfl, S, rs, p.bnd fun W1 h1 xs x1 S1 p1 vs r1 => ?_⟩
  by_cases z : xs.length = fns.length
  · rw [if_pos z] at p1
    refine ⟨by rw [← r1.length]; exact z, fun d hd => ?_⟩
    have x2 : Ext W1 (W1.put d (.xd (fns.zip vs))) := Ext.put S1 hd
    exact p1 _ (.ref C) (some d) x2 (S1.put hd) ⟨hcl, _, rf_zip fns (r1.mono x2), .inr ⟨d, rfl, S1.fresh hd, upd_same⟩⟩
  · rw [if_neg z] at p1
    exact p1.elim
/-- C(), no own __init__ -/
theorem pmk_own0 {bmB : List Value} {B newId initId : String} {p : Pos} (F : ExcBaseFacts B newId initId bmB) (q : PySem.W.excIn X.K C bmB newId = true) (gC : X.mg cls = some (.ref C)) (kC : PySem.W.keepIn X.K (.ref C) = true) (r : Raises X (.ref C)) (hg : Gl X cls)
    (hdb : (cls == ("__debug__" : Str)) = false := by decide) : PMk X (.Call (.Name cls p) [] [] pos) (fun _ H Q => Q (.ref C) none H) := by
  intro pins s σ H Q I h
  refine wpAny_Call_Name_kw (ld_glob I hg gC ?_ hdb)
  refine PySem.W.callWith_K0 I.kIn kC ?_
  obtain ⟨bm, N, nm, qn, bs, hdct, sn, sub, ab, col, dd, k0, k1, k2, k3, k5, mN, hC, hN, hni, T⟩ := exc_obj I.kIn q
  obtain ⟨hp, g, dr, tk, os⟩ := s
  exact wpAny_call_exc_subT F T hC hN hni (fun h' e hm => mk_of I hm r h (I.hok.gone hm.new)) (by rw [PySem.sizeLine_eq]; exact Nat.zero_le _)
end
end Mi
set_option maxHeartbeats 2000000
/-! Mi: try .. except, the suites. -/
namespace Mi
open PySem L2
/-- behind a suite: the clause's name is gone; no error leaves it -/
@[simp ↓] def wipeR (i : Nat) : Option OutS → Option OutS
  | some (.nx s h) => some (.nx (s.set i none) h)
  | some (.ret x h) => some (.ret x h)
  | some (.brk s h) => some (.brk (s.set i none) h)
  | some (.cnt s h) => some (.cnt (s.set i none) h)
  | _ => none
/-- the same at all addresses -/
noncomputable def allAd (g : Addr → Option Addr → Option OutS) : Option OutS :=
  haveI := Classical.propDecidable (∀ a d, g a d = g 0 none)
  if ∀ a d, g a d = g 0 none then g 0 none else none
theorem allAd_eq {g : Addr → Option Addr → Option OutS} {r : Option OutS} (h : ∀ a d, g a d = r) : allAd g = r := by
  unfold allAd
  rw [if_pos fun a d => by rw [h a d, h 0 none], h 0 none]
theorem allAd_at {g : Addr → Option Addr → Option OutS} {o : OutS} (e : allAd g = some o) (a : Addr) (d : Option Addr) : g a d = some o := by
  unfold allAd at e
  by_cases z : ∀ a d, g a d = g 0 none
  · rw [if_pos z] at e
    rw [z a d, e]
  · rw [if_neg z] at e
    cases e
abbrev exV (e : MX) (a : Addr) (d : Option Addr) : MV := .exc a d (e.flds.map (·.1)) (e.flds.map (·.2))
/-- try: body / except C as n: suite; tab: which class is below C; n slots, i the name's -/
noncomputable def tryS (body : MT) (tab : List (Str × Bool)) (n i : Nat) (suite : Str → Addr → Option Addr → MT) : MT := fun s h => match body s h with
  | some (.ex e h1) => match tab.lookup e.cls with
    | some true => allAd fun a d => wipeR i (suite e.cls a d ((List.replicate n none).set i (some (exV e a d))) h1)
    | some false => some (.ex e h1)
    | none => none
  | r => r
/-- .. except C: suite -/
@[simp ↓] def tryO (body : MT) (tab : List (Str × Bool)) (n : Nat) (suite : MT) : MT := fun s h => match body s h with
  | some (.ex e h1) => match tab.lookup e.cls with
    | some true => match suite (List.replicate n none) h1 with
      | some (.ex _ _) => none
      | r => r
    | some false => some (.ex e h1)
    | none => none
  | r => r
theorem rs_none {K : PySem.W.Frag} {W : Wd} : ∀ {n : Nat} {σ : St}, σ.length = n → RS K W (List.replicate n none) σ
  | 0, [], _ => .nil
  | n + 1, _ :: _, e => .no (rs_none (Nat.succ.inj e))
theorem rf_split {K : PySem.W.Frag} {W : Wd} : ∀ {fl : List (Str × MV)} {fs : List (Str × V)}, RF K W fl fs → RVs K W (fl.map (·.2)) (fs.map (·.2)) ∧ fs = (fl.map (·.1)).zip (fs.map (·.2))
  | _, _, .nil => ⟨.nil, rfl⟩
  | _, _, .cons r t => by
    obtain ⟨a, b⟩ := rf_split t
    exact ⟨.cons r a, congrArg (List.cons _) b⟩
theorem rf_nil {K : PySem.W.Frag} {W : Wd} {fl : List (Str × MV)} (r : RF K W fl []) : fl = [] := by
  cases r
  rfl
theorem exV_rv {K : PySem.W.Frag} {c : XC} {W : Wd} {e : MX} {C : Value} {d : Option Addr} (x : XR K c W e C d) (a : Addr) : RV K W (exV e a d) (.ref a) := by
  obtain ⟨_, fs, r, q⟩ := x
  rcases q with ⟨rfl, rfl⟩ | ⟨p, rfl, st, hp⟩
  · have z := rf_nil r
    unfold exV
    rw [z]
    exact .exc0
  · obtain ⟨r2, e2⟩ := rf_split r
    rw [e2] at hp
    exact .excD st hp r2
section
variable {X : Cx} {E : XK} {body suite : List Stmt} {b₀ : Stmt} {np pos pos' : Pos} {x y : Str} {cv : Value} {i : Nat} {tab : List (Str × Bool)} {mb : MT}
/-- what is wished of the errors of a try's body, at whatever slots -/
def anyS (n : Nat) (W : WX) : XK := fun cls d H => ∀ σ : St, σ.length = n → W cls d σ H
theorem tk_any {n : Nat} {W : WX} (hn : X.N.length = n) (tk : Takes X W) : Tk X (anyS n W) := fun u s' xx => by
  obtain ⟨a, B, sI, pins, σ, H, cls, d, e, I, nb, up, sky, na, os, ag, w⟩ := xx
  exact tk u s' ⟨a, B, sI, pins, σ, H, cls, d, e, I, nb, up, sky, na, os, ag, w σ (by rw [I.len, hn])⟩
theorem s_try_as {ms : Str → Addr → Option Addr → MT} {n : Nat} (hn : X.N.length = n) (hs : X.stack = X.env :: X.outer) (hf : X.env.frame = some X.env.locals) (hN : X.N.Nodup) (hi : X.N[i]? = some y) (hln : X.env.kindOf y = some .local) (hc : Names X x cv) (tk : Tk X E)
    (htab : ∀ nm b, tab.lookup nm = some b → ∀ C, X.mg nm = some C → PySem.W.exmOne X.K C cv = some b)
    (hb : ∀ (E' : XK) (pn : List (Addr × Obj)) (xe : Value → Shared → Prop), Tk (X.tr pn xe) E' → PassesOwn (model X.prog X.w) X.A X.env xe → SsM (X.tr pn xe) ⟨X.mg, E'⟩ body mb)
    (hsu : ∀ nm, tab.lookup nm = some true → ∀ C, X.mg nm = some C → ∀ (a : Addr) (oe : Obj) (d : Option Addr) (pn : List (Addr × Obj)), Zc C d oe → (∃ vs, oe.data = .fields vs) → SsM (X.suite a ((a, oe) :: pn)) ⟨X.mg, fun _ _ _ => False⟩ (b₀ :: suite) (ms nm a d)) :
    SM X ⟨X.mg, E⟩ (.Try body [.ExceptHandler (some (.Name x np)) (some y) (b₀ :: suite) pos'] [] [] pos) (tryS mb tab n i ms) := by
  refine ps_wk (ps_try_as (i := i) (c := cv) (Wout := fun cls d _ H => E cls d H) (tb := fun W => tS X.K ⟨X.mg, anyS n W⟩ mb)
    (ts := fun a cls d D σ H => ∃ nm, tab.lookup nm = some true ∧ X.mg nm = some cls ∧ tS X.K ⟨X.mg, fun _ _ _ => False⟩ (ms nm a d) D σ H) hs hf hN hi hln hc tk (fun W pn xe t po => hb _ pn xe (tk_any hn t) po)
    (fun a oe cls d pn hz hv => ⟨fun pins s σ H D I q => ?_⟩)) fun D σ H q => ?_
  · obtain ⟨nm, h1, h2, q⟩ := q
    exact (hsu nm h1 cls h2 a oe d pn hz hv).run pins s σ H D I q
  · obtain ⟨W, h, s, rfl, S, rs, p⟩ := q
    refine ⟨W, h, s, rfl, S, rs, ?_⟩
    have p' : PstS X.K ⟨X.mg, E⟩ D W (match mb s h with
      | some (.ex e h1) => (match tab.lookup e.cls with
        | some true => allAd fun a d => wipeR i (ms e.cls a d ((List.replicate n none).set i (some (exV e a d))) h1)
        | some false => some (.ex e h1)
        | none => none)
      | r => r) := p
    cases hm : mb s h with
    | none =>
      rw [hm] at p'
      exact p'.elim
    | some o =>
      rw [hm] at p'
      cases o with
      | nx s1 h1 => exact p'
      | ret x1 h1 => exact p'
      | brk s1 h1 => exact p'
      | cnt s1 h1 => exact p'
      | ex e h1 =>
        intro W1 C d x1 S1 xr σ1 hl
        have hC : X.mg e.cls = some C := xr.1
        cases ht : tab.lookup e.cls with
        | none =>
          simp only [ht] at p'
          exact p'.elim
        | some b =>
          simp only [ht] at p'
          refine ⟨b, htab _ _ ht _ hC, fun eb a ha => ?_, fun eb => ?_⟩
          · subst eb
            have p2 : PstS X.K ⟨X.mg, E⟩ D W (allAd fun a d => wipeR i (ms e.cls a d ((List.replicate n none).set i (some (exV e a d))) h1)) := p'
            cases hg : (allAd fun a d => wipeR i (ms e.cls a d ((List.replicate n none).set i (some (exV e a d))) h1)) with
            | none =>
              rw [hg] at p2
              exact p2.elim
            | some o =>
              rw [hg] at p2
              have g1 := allAd_at hg a d
              refine ⟨e.cls, ht, hC, W1, h1, _, rfl, S1, (rs_none hl).set (exV_rv xr a) i, ?_⟩
              have p3 := PstS.shift x1 p2
              cases hr : ms e.cls a d ((List.replicate n none).set i (some (exV e a d))) h1 with
              | none =>
                rw [hr] at g1
                cases g1
              | some o2 =>
                rw [hr] at g1
                cases o2 with
                | nx s2 h2 =>
                  cases g1
                  exact fun W2 σ2 x2 S2 r2 => p3 W2 _ x2 S2 (r2.clr i none)
                | ret v2 h2 =>
                  cases g1
                  exact p3
                | brk s2 h2 =>
                  cases g1
                  exact fun W2 σ2 x2 S2 r2 => p3 W2 _ x2 S2 (r2.clr i none)
                | cnt s2 h2 =>
                  cases g1
                  exact fun W2 σ2 x2 S2 r2 => p3 W2 _ x2 S2 (r2.clr i none)
                | ex e2 h2 => cases g1
          · subst eb
            exact p' W1 C d x1 S1 xr
theorem s_try_only {ms : MT} {n : Nat} (hn : X.N.length = n) (hs : X.stack = X.env :: X.outer) (hf : X.env.frame = some X.env.locals) (hc : Names X x cv) (tk : Tk X E)
    (htab : ∀ nm b, tab.lookup nm = some b → ∀ C, X.mg nm = some C → PySem.W.exmOne X.K C cv = some b)
    (hb : ∀ (E' : XK) (pn : List (Addr × Obj)) (xe : Value → Shared → Prop), Tk (X.tr pn xe) E' → PassesOwn (model X.prog X.w) X.A X.env xe → SsM (X.tr pn xe) ⟨X.mg, E'⟩ body mb)
    (hsu : ∀ (a : Addr) (oe : Obj) (pn : List (Addr × Obj)), SsM (X.suite a ((a, oe) :: pn)) ⟨X.mg, fun _ _ _ => False⟩ (b₀ :: suite) ms) :
    SM X ⟨X.mg, E⟩ (.Try body [.ExceptHandler (some (.Name x np)) none (b₀ :: suite) pos'] [] [] pos) (tryO mb tab n ms) := by
  refine ps_wk (ps_try_only (c := cv) (Wout := fun cls d _ H => E cls d H) (tb := fun W => tS X.K ⟨X.mg, anyS n W⟩ mb)
    (ts := fun a cls d => tS X.K ⟨X.mg, fun _ _ _ => False⟩ ms) hs hf hc tk (fun W pn xe t po => hb _ pn xe (tk_any hn t) po) (fun a oe cls d pn hz hv => hsu a oe pn)) fun D σ H q => ?_
  obtain ⟨W, h, s, rfl, S, rs, p⟩ := q
  refine ⟨W, h, s, rfl, S, rs, ?_⟩
  have p' : PstS X.K ⟨X.mg, E⟩ D W (match mb s h with
    | some (.ex e h1) => (match tab.lookup e.cls with
      | some true => (match ms (List.replicate n none) h1 with
        | some (.ex _ _) => none
        | r => r)
      | some false => some (.ex e h1)
      | none => none)
    | r => r) := p
  cases hm : mb s h with
  | none =>
    rw [hm] at p'
    exact p'.elim
  | some o =>
    rw [hm] at p'
    cases o with
    | nx s1 h1 => exact p'
    | ret x1 h1 => exact p'
    | brk s1 h1 => exact p'
    | cnt s1 h1 => exact p'
    | ex e h1 =>
      intro W1 C d x1 S1 xr σ1 hl
      have hC : X.mg e.cls = some C := xr.1
      cases ht : tab.lookup e.cls with
      | none =>
        simp only [ht] at p'
        exact p'.elim
      | some b =>
        simp only [ht] at p'
        refine ⟨b, htab _ _ ht _ hC, fun eb a ha => ?_, fun eb => ?_⟩
        · subst eb
          have p2 : PstS X.K ⟨X.mg, E⟩ D W (match ms (List.replicate n none) h1 with
            | some (.ex _ _) => none
            | r => r) := p'
          refine ⟨W1, h1, _, rfl, S1, rs_none hl, ?_⟩
          have p3 := PstS.shift x1 p2
          cases hr : ms (List.replicate n none) h1 with
          | none =>
            rw [hr] at p3
            exact p3.elim
          | some o2 =>
            rw [hr] at p3
            cases o2 with
            | nx s2 h2 => exact p3
            | ret v2 h2 => exact p3
            | brk s2 h2 => exact p3
            | cnt s2 h2 => exact p3
            | ex e2 h2 => exact p3.elim
        · subst eb
          exact p' W1 C d x1 S1 xr
end
end Mi
set_option maxHeartbeats 2000000
/-! Mi: what a suite asks of the error that it holds. -/
namespace Mi
open PySem L2
/-- e.f -/
@[simp ↓] def xfM (i : Nat) (a : Addr) (d : Option Addr) (f : Str) : ME := fun s h => match slot s i with
  | some (.exc a' d' fns xs) => if a' = a ∧ d' = d then (match (fns.zip xs).lookup f with
    | some v => ok v h
    | none => none) else none
  | _ => none
@[simp ↓] def optB (o : Option Bool) (h : MH) : Res MV := match o with
  | some b => ok (.bl b) h
  | none => none
/-- isinstance(e, ..), the answer known by the class -/
@[simp ↓] def isE (i : Nat) (a : Addr) (d : Option Addr) (o : Option Bool) : ME := fun s h => match slot s i with
  | some (.exc a' d' fns xs) => if a' = a ∧ d' = d then optB o h else none
  | _ => none
theorem zip_look {K : PySem.W.Frag} {W : Wd} {f : Str} {x : MV} : ∀ {fns : List Str} {xs : List MV} {vs : List V}, RVs K W xs vs → (fns.zip xs).lookup f = some x → ∃ v, (fns.zip vs).lookup f = some v ∧ RV K W x v
  | [], _, _, _, e => by cases e
  | _ :: _, _, _, .nil, e => by cases e
  | g :: fns, _, _, .cons r t, e => by
    rw [List.zip_cons_cons, List.lookup_cons] at e
    rw [List.zip_cons_cons, List.lookup_cons]
    cases q : f == g with
    | true =>
      rw [q] at e
      cases e
      exact ⟨_, rfl, r⟩
    | false =>
      rw [q] at e
      exact zip_look t e
/-- what an own error class must have for isinstance -/
structure KitE (K : PySem.W.Frag) (C : Addr) : Prop where
  cl : (PySem.W.clsIn K C).isSome = true
  ga : PySem.W.findIn K (.ref C) "__getattribute__" = some (some (.builtin "BaseException.__getattribute__"))
  gg : PySem.W.findIn K (.ref C) "__getattr__" = some none
  sb : PySem.W.subIn K (.ref C) (.type "BaseException") = some true
  ca : PySem.W.findIn K (.ref C) "__class__" = some (some (.builtin "object.__class__"))
  sg : PySem.W.specialIn K (.builtin "object.__class__") "__get__" = some (some (.builtin "getset_descriptor.__get__"))
  tk : PySem.W.takesIn K (.builtin "object.__class__") = some true
  mo : PySem.W.mroIn K C (.type "object") = some true
section
variable {X : Cx} {c : XC} {a C : Addr} {oe : Obj} {d : Option Addr} {pn : List (Addr × Obj)} {i : Nat} {y : Str} {pos p p2 p3 : Pos}
theorem slot_exc {K : PySem.W.Frag} {W : Wd} {C' : Wd → MV → Prop} {s : MS} {σ : St} {h : MH} {k : List Str → List MV → Res MV} (rs : RS K W s σ) (p : Pst K c C' W (match slot s i with
    | some (.exc a' d' fns xs) => if a' = a ∧ d' = d then k fns xs else none
    | _ => none)) : ∃ fns xs, σ[i]? = some (some (.ref a)) ∧ RV K W (.exc a d fns xs) (.ref a) ∧ Pst K c C' W (k fns xs) := by
  cases q : slot s i with
  | none =>
    rw [q] at p
    exact p.elim
  | some x =>
    rw [q] at p
    cases x <;> first | exact p.elim | skip
    rename_i a' d' fns xs
    have p' : Pst K c C' W (if a' = a ∧ d' = d then k fns xs else none) := p
    by_cases z : a' = a ∧ d' = d
    · rw [if_pos z] at p'
      obtain ⟨rfl, rfl⟩ := z
      obtain ⟨v, hv, r⟩ := rs.get (slot_eq s i q)
      have e : v = .ref a' := by
        cases r with
        | exc0 => rfl
        | excD => rfl
      subst e
      exact ⟨fns, xs, hv, r, p'⟩
    · rw [if_neg z] at p'
      exact p'.elim
theorem em_xf {f : Str} (hN : X.N[i]? = some y) (hv : Vis X.env.scope y) (T : XfC X.K C) (hno : PySem.W.findIn X.K (.ref C) f = some none) (hz : Zc (.ref C) d oe) (hf : ∃ vs, oe.data = .fields vs) (hd1 : (y == ("__debug__" : Str)) = false := by decide) (hd2 : (y == ("__classdict__" : Str)) = false := by decide)
    (hb : attributeBase (.Name y p) f X.env (eval (.Name y p) X.env) = eval (.Name y p) X.env := by rfl) : EM (X.suite a ((a, oe) :: pn)) c (.Attribute (.Name y p) f pos) (xfM i a d f) :=
  pe_wk (pe_xf T hno hz hf (pe_var (X := X.suite a ((a, oe) :: pn)) (i := i) hN hv hd1 hd2) hb) fun σ H Q ⟨W, h, s, eW, S, rs, q⟩ => by
    subst eW
    obtain ⟨fns, xs, h1, r, q2⟩ := slot_exc (k := fun fns xs => match (fns.zip xs).lookup f with
      | some v => ok v h
      | none => none) (h := h) rs q
    refine ⟨.ref a, h1, rfl, rfl, ?_⟩
    cases r with
    | exc0 =>
      rw [List.zip_nil_right] at q2
      exact q2.elim
    | @excD _ dd _ _ vs st hd r =>
      cases e : (fns.zip xs).lookup f with
      | none =>
        simp only [e] at q2
        exact q2.elim
      | some x =>
        simp only [e] at q2
        obtain ⟨v, hv, rv⟩ := zip_look r e
        exact ⟨dd, _, v, rfl, hd, hv, q2 W (Ext.refl W) S v rv⟩
/-- isinstance(e, c); isinstance(e, (c, ..)) -/
def rIsX (K : PySem.W.Frag) (C a : Addr) (d : Option Addr) : List V → Hp → VK → Prop := fun xs H Q => (d = none ∨ ∃ p fs, d = some p ∧ H p = some (.xd fs)) ∧
  ((∃ (k : V) (u : Value) (b : Bool), xs = [.ref a, k] ∧ ClsV k u ∧ PySem.W.kitOne K (.ref C) u = some b ∧ Q (.bl b) H) ∨
    ∃ (tp : Addr) (ks : List V) (us : List Value) (b : Bool), xs = [.ref a, .ref tp] ∧ H tp = some (.tup ks) ∧ Paired ClsV ks us ∧ PySem.W.kitAny K (.ref C) us = some b ∧ Q (.bl b) H)
theorem call_isX (T : KitE X.K C) (hz : Zc (.ref C) d oe) (hf : ∃ vs, oe.data = .fields vs) : CallR (X.suite a ((a, oe) :: pn)) (.builtin "isinstance") (rIsX X.K C a d) := by
  intro pins s σ H xs us Q I r h
  obtain ⟨hd, h⟩ := h
  obtain ⟨hget, _⟩ := I.pin (a, oe) (List.mem_append.mpr (.inl List.mem_cons_self))
  obtain ⟨vs, hv⟩ := hf
  have J : ∃ od, PySem.W.InstAt s.heap a oe C od := by
    rcases hd with rfl | ⟨p, fs, rfl, hp⟩
    · exact ⟨none, hget, hz.1, by unfold PySem.W.notCls; rw [hv] <;> rfl, by rw [hz.2]; trivial⟩
    · have hx : ObjOk X.prog X.w H s.heap p (.xd fs) := I.hok p _ hp
      obtain ⟨mA, hns, hr⟩ := hx
      obtain ⟨od, ho, hl⟩ := lookIn_ns hns
      exact ⟨some od, hget, hz.1, by unfold PySem.W.notCls; rw [hv] <;> rfl, by rw [hz.2]; exact ho⟩
  obtain ⟨od, J⟩ := J
  have Z := PySem.W.kitx_exc (x := a) (ox := oe) (od := od) T.cl T.ga T.gg T.sb T.ca T.sg T.tk T.mo
  rcases h with ⟨k, u, b, rfl, hk, e, q⟩ | ⟨tp, ks, ws, b, rfl, hT, hk, e, q⟩
  · obtain ⟨u1, u2, rfl, r1, r2⟩ := vals2 r
    have e2 := hk.eq r2
    subst e2
    cases (show u1 = Value.ref a from r1)
    exact PySem.W.kia_one Z I.kIn J e (fun z => nomatch z) fun tk => ⟨.bl b, H, I.tok tk, rfl, q⟩
  · obtain ⟨u1, u2, rfl, r1, r2⟩ := vals2 r
    cases (show u1 = Value.ref a from r1)
    cases (show u2 = Value.ref tp from r2)
    obtain ⟨_, its, rv, o, h1, h2, n, h3⟩ := (show ObjOk X.prog X.w H s.heap tp (.tup ks) from I.hok tp _ hT)
    have e3 := ClsV.all hk rv
    subst e3
    obtain ⟨oc, od', dt, sl⟩ := o
    simp only at h2 h3
    subst h2 h3
    exact PySem.W.kia_tup Z I.kIn J h1 e (fun z => nomatch z) fun tk => ⟨.bl b, H, I.tok tk, rfl, q⟩
theorem dict_of {K : PySem.W.Frag} {W : Wd} {fns : List Str} {xs : List MV} (r : RV K W (.exc a d fns xs) (.ref a)) : d = none ∨ ∃ p fs, d = some p ∧ W.H p = some (.xd fs) := by
  cases r with
  | exc0 => exact .inl rfl
  | excD st hd r => exact .inr ⟨_, _, rfl, hd⟩
theorem em_isX {T : Expr} {k : V} {u : Value} {o : Option Bool} (hN : X.N[i]? = some y) (hv : Vis X.env.scope y) (TE : KitE X.K C) (hz : Zc (.ref C) d oe) (hf : ∃ vs, oe.data = .fields vs) (hg : Gl X "isinstance") (hm : X.mg "isinstance" = none) (hk : ClsV k u) (hT : PE (X.suite a ((a, oe) :: pn)) T (tC k))
    (ho : ∀ b, o = some b → PySem.W.kitOne X.K (.ref C) u = some b) (hd1 : (y == ("__debug__" : Str)) = false := by decide) (hd2 : (y == ("__classdict__" : Str)) = false := by decide)
    (hs : starEach [.Name y p2, T] X.env = (false, eval (.Name y p2) X.env) :: starEach [T] X.env := by rfl) (hs2 : starEach [T] X.env = (false, eval T X.env) :: starEach [] X.env := by rfl)
    (hpl : (backTo pos (starEach [T] X.env)).any (·.1) = false := by rfl) : EM (X.suite a ((a, oe) :: pn)) c (.Call (.Name "isinstance" p) [.Name y p2, T] [] pos) (isE i a d o) :=
  pe_wk (pe_callB (call_isX TE hz hf) hg hm PyProof.Rows.boot_isinstance (pa_cons (pe_var (X := X.suite a ((a, oe) :: pn)) (i := i) hN hv hd1 hd2) (pa_cons hT pa_nil hs2) hs) (by decide) (by decide) hs hpl) fun σ H Q ⟨W, h, s, eW, S, rs, q⟩ => by
    subst eW
    obtain ⟨fns, xs, h1, r, q2⟩ := slot_exc (k := fun fns xs => optB o h) (h := h) rs q
    refine ⟨.ref a, h1, dict_of r, .inl ⟨k, u, ?_⟩⟩
    cases o with
    | none => exact q2.elim
    | some b => exact ⟨b, rfl, hk, ho b rfl, q2 W (Ext.refl W) S _ (.bl b)⟩
theorem em_isXT {Ts : List Expr} {n : Nat} {ks : List V} {us : List Value} {tt : TA} {o : Option Bool} (hN : X.N[i]? = some y) (hv : Vis X.env.scope y) (TE : KitE X.K C) (hz : Zc (.ref C) d oe) (hf : ∃ vs, oe.data = .fields vs) (hg : Gl X "isinstance") (hm : X.mg "isinstance" = none) (hk : Paired ClsV ks us)
    (hT : PA (X.suite a ((a, oe) :: pn)) Ts tt) (htt : ∀ σ H Q, Q ks H → tt σ H Q) (hl : ks.length ≤ 100) (ho : ∀ b, o = some b → PySem.W.kitAny X.K (.ref C) us = some b) (hd1 : (y == ("__debug__" : Str)) = false := by decide) (hd2 : (y == ("__classdict__" : Str)) = false := by decide)
    (hs : starEach [.Name y p2, .Tuple Ts n p3] X.env = (false, eval (.Name y p2) X.env) :: starEach [.Tuple Ts n p3] X.env := by rfl) (hs2 : starEach [.Tuple Ts n p3] X.env = (false, eval (.Tuple Ts n p3) X.env) :: starEach [] X.env := by rfl)
    (hpl : (backTo pos (starEach [.Tuple Ts n p3] X.env)).any (·.1) = false := by rfl) : EM (X.suite a ((a, oe) :: pn)) c (.Call (.Name "isinstance" p) [.Name y p2, .Tuple Ts n p3] [] pos) (isE i a d o) :=
  pe_wk (pe_callB (call_isX TE hz hf) hg hm PyProof.Rows.boot_isinstance (pa_cons (pe_var (X := X.suite a ((a, oe) :: pn)) (i := i) hN hv hd1 hd2) (pa_cons (pe_tup hT) pa_nil hs2) hs) (by decide) (by decide) hs hpl) fun σ H Q ⟨W, h, s, eW, S, rs, q⟩ => by
    subst eW
    obtain ⟨fns, xs, h1, r, q2⟩ := slot_exc (k := fun fns xs => optB o h) (h := h) rs q
    refine ⟨.ref a, h1, htt _ _ _ ⟨Nat.le_trans hl (by rw [PySem.sizeLine_eq]; decide), fun tp hq => ?_⟩⟩
    have x2 : Ext W (W.put tp (.tup ks)) := Ext.put S hq
    have r2 := dict_of (r.mono x2)
    cases o with
    | none => exact q2.elim
    | some b => exact ⟨r2, .inr ⟨tp, ks, us, b, rfl, upd_same, hk, ho b rfl, q2 _ x2 (S.put hq) _ (.bl b)⟩⟩
end
end Mi
set_option maxHeartbeats 4000000
/-! Mi: an own error class below ValueError whose __init__ says super().__init__('..') and keeps its one argument. -/
namespace Mi
open PySem L2 PySem.W PySem.Calls PyProof.Rows PySem.HandSPX
/-- the first def of a class's body -/
def initOf : Stmt → Stmt
  | .ClassDef _ _ _ (st :: _) _ _ _ _ _ _ _ => st
  | st => st
def supS (f : Str) : Scope where
  kind := .function
  names := [(Str.ofString "self", .local), (f, .local), (Str.ofString "__class__", .free), (Str.ofString "super", .globalImplicit)]
  isGenerator := false
  isCoroutine := false
  more := []
/-- what the text of __init__ says -/
structure SupTx (f : Str) (ist : Stmt) : Prop where
  body : ∃ msg j p0 p1 p2 p3 p4 p5 q1 q2 q3 q4, defBody ist = [.Expr (.Call (.Attribute (.Call (.Name "super" p0) [] [] p1) "__init__" p2) [.Constant (.str msg) j p3] [] p4) p5, .Assign [.Attribute (.Name "self" q1) f q2] (.Name f q3) q4] ∧
    ∃ pl : Sem Bool, ∀ (qual : Str) (L a : Addr) (cd : Value) (cc : Addr), eval (.Call (.Attribute (.Call (.Name "super" p0) [] [] p1) "__init__" p2) [.Constant (.str msg) j p3] [] p4) (ksEnv qual (supS f) L a cd cc) = (do
      let ov ← attributeBase (.Call (.Name "super" p0) [] [] p1) "__init__" (ksEnv qual (supS f) L a cd cc) (eval (.Call (.Name "super" p0) [] [] p1) (ksEnv qual (supS f) L a cd cc))
      standAt p2.atName
      let (fx, first) ← holding [ov] (getMethod ov "__init__" pl)
      callWith p4 fx first (backTo p4 (starEach [.Constant (.str msg) j p3] (ksEnv qual (supS f) L a cd cc))) [])
  head : ∃ ar, ((defArgs ist).posonlyargs ++ (defArgs ist).args).head? = some ar ∧ ar.arg = "self"
  bind : ∀ (s : Shared) (qual : Str) (kV doc pm : Value) (an : Option Addr) (cd ct : Value) (cc : Addr) (x v : Value), BindsTo s (ksFn "__init__" qual (defArgs ist) (defBody ist) (supS f) .none kV doc pm an cd ct cc) ⟨[x, v], []⟩ [("self", x), (f, v)]
  self : (supS f).names.lookup ("self" : Str) = some .local
  fld : (supS f).names.lookup f = some .local
  cls : (supS f).names.lookup ("__class__" : Str) = some .free
  sup : (supS f).names.lookup ("super" : Str) = some .globalImplicit
  nocell : ∀ x ∈ (supS f).names, x.2 ≠ .cell
  ne : f ≠ "self"
  nd : (f == ("__debug__" : Str)) = false
/-- what the written part says of the class -/
structure SupTxt (P : Program) (K : Frag) (mg : Str → Option Value) (cls qual f : Str) (ist : Stmt) (C fI : Addr) : Prop where
  gC : mg cls = some (.ref C)
  nsup : mg "super" = none
  cl : ∃ nm q N bs bm sn sub ab col dd k0 k1 k2 k3 k5, K.lookup C = some (excClassObj nm q C N bs bm true sn sub ab col dd k0 k1 k2 k3 k5 "ValueError.__new__") ∧ refsVE bm = true
  xi : excInitIn K C veTail "ValueError.__new__" = true
  sa : findIn K (.ref C) "__setattr__" = some (some (.builtin "object.__setattr__"))
  noN : findIn K (.ref C) f = some none
  iC : findIn K (.ref C) "__init__" = some (some (.ref fI))
  tI : typeIn K (.ref fI) = some (.type "function")
  kC : keepIn K (.ref C) = true
  exC : subIn K (.ref C) (.type "BaseException") = some true
  veC : subIn K (.ref C) (.type "ValueError") = some true
  tyC : typeIn K (.ref C) = some (.type "type")
  su : ks_superIn K C C "__init__" = some (some (.builtin "ValueError.__init__"))
  op : nsIn K cStatics "thirdparty.any" = some none
  mo : mroIn K C (.ref C) = some true
  fn : ∃ oc od kV doc pm an cda ct osl cc, K.lookup fI = some ⟨oc, od, .func (ksFn "__init__" qual (defArgs ist) (defBody ist) (supS f) .none kV doc pm an (.ref cda) ct cc), osl⟩ ∧ codeIn K (.ref cda) qual = true ∧
    (∃ ccl cdd vs ccs file tf, K.lookup cda = some ⟨ccl, cdd, .fields vs, ccs⟩ ∧ vs[2]? = some (.str file tf) ∧ ((P.main.file : Str) == file) = true) ∧ ∃ l ld lsl, K.lookup cc = some ⟨l, ld, .cell (some (.ref C)), lsl⟩
  top : (P.main.scope.names.lookup ("super" : Str)).isSome = false
/-- an error that was made -/
structure SupMade (h h' : Heap) (e C d : Addr) (f : Str) (v : Value) : Prop where
  keep : ∀ b o, h.get? b = some o → h'.get? b = some o
  new : h.objs.size ≤ e
  obj : ∃ t1 : Addr, h'.get? e = some { cls := .ref C, dict := some d, data := .fields #[.ref t1, .none, .none, .none, .bool false, .none] }
  dbig : h.objs.size ≤ d
  dne : d ≠ e
  ns : h'.Ns1 d (fun y => if y = f then some v else none)
section
variable {P : Program} {w : World} {A : Around} {R : Result → Shared → Prop} {s : Shared} {K : Frag} {mg : Str → Option Value} {cls qual f : Str} {ist : Stmt} {C fI : Addr}
theorem ks_env {name qual : Str} {params : Arguments} {body : List Stmt} {scope : Scope} {dV kV doc pm cdv ct : Value} {an : Option Addr} {cc L a : Addr} : callEnv (ksFn name qual params body scope dV kV doc pm an cdv ct cc) L a = ksEnv qual scope L a cdv cc := rfl
theorem sup_init {h0 : Heap} (X : SupTx f ist) (T : SupTxt P K mg cls qual f ist C fI) {x t0 : Addr} {v : Value} (k0 : K.In h0) (st : ∀ b o, h0.get? b = some o → s.heap.get? b = some o) (sz : h0.objs.size ≤ s.heap.objs.size) (nx : h0.get? x = none) (hg : h0.Ns mainGlobals mg)
    (hb : ∃ mb, h0.Ns builtinsNs mb ∧ ∀ x : Str, x ≠ "__name__" → mb x = bootBuiltins x) (hlim : s.heap.NoLimit) (hx : s.heap.get? x = some (excO C t0)) (hroom : A.depth < recursionLimit)
    (hq : ∀ h' tk dx t1, (∀ b o, h0.get? b = some o → h'.get? b = some o) → h'.get? x = some { cls := .ref C, dict := some dx, data := .fields #[.ref t1, .none, .none, .none, .bool false, .none] } → h0.objs.size ≤ dx → dx ≠ x → h'.Ns1 dx (fun y => if y = f then some v else none) →
      R (.ok (.ret .none)) { s with heap := h', toks := tk }) :
    codeAny (model P w) A (.call (.ref fI) ⟨[.ref x, v], []⟩) R s := by
  obtain ⟨oc, od, kV, doc, pm, an, cda, ct, osl, cc, hfn, hcd, ⟨ccl, cdd, vs, ccs, file, tf, hcda, hvs, hfile⟩, l, ld, lsl, hcc⟩ := T.fn
  obtain ⟨msg, j, p0, p1, p2, p3, p4, p5, q1, q2, q3, q4, eb, pl, he⟩ := X.body
  obtain ⟨ar, har, ear⟩ := X.head
  obtain ⟨nm, q, N, bs, bm, sn, sub, ab, col, dd, m0, m1, m2, m3, m5, hC, hbm⟩ := T.cl
  have hcl : clsIn K C = some { name := nm, bases := bs, mro := .ref C :: bm, ns := N, qualname := q, hasDict := true, slotNames := sn, subclasses := sub, abstract := ab, collection := col, hasDel := false } := by unfold clsIn; rw [hC] <;> rfl
  obtain ⟨mb, hb1, hb2⟩ := hb
  have KX : K.In s.heap := fun a o e => st a o (k0 a o e)
  refine ks_codeAny_call_defAt (fd := ksFn "__init__" qual (defArgs ist) (defBody ist) (supS f) .none kV doc pm an (.ref cda) ct cc) (body := defBody ist) (binds := [("self", .ref x), (f, v)]) hroom (KX _ _ hfn) rfl hlim (codeRec_of KX hcd) rfl (X.bind _ _ _ _ _ _ _ _ _ _ _) X.nocell (fun y hy => ?_) (fun h₁ hns k => ?_) rfl rfl rfl
  · rcases List.mem_cons.mp hy with rfl | hy
    · exact X.self
    · rw [List.mem_singleton.mp hy]
      exact X.fld
  have k1 : ∀ b o, h0.get? b = some o → h₁.get? b = some o := fun b o e => k b o (st b o e)
  have K1 : K.In h₁ := fun a o e => k1 a o (k0 a o e)
  have hself : ∀ {y : Str}, y = "self" → (fun y => ([("self", Value.ref x), (f, v)] : List (Str × Value)).reverse.lookup y) y = some (.ref x) := fun {y} e => by
    subst e
    have z : (("self" : Str) == f) = false := by
      rw [beq_eq_false_iff_ne]
      exact Ne.symm X.ne
    show List.lookup ("self" : Str) [(f, v), (("self" : Str), Value.ref x)] = _
    rw [List.lookup_cons, z, List.lookup_cons, beq_self_eq_true]
  have hfld : (fun y => ([("self", Value.ref x), (f, v)] : List (Str × Value)).reverse.lookup y) f = some v := by
    show List.lookup f [(f, v), (("self" : Str), Value.ref x)] = _
    rw [List.lookup_cons, beq_self_eq_true]
  have hxL : s.heap.objs.size ≠ x := Nat.ne_of_gt (Heap.lt_size hx)
  rw [ks_env, eb]
  obtain ⟨hh, g, d, tk, os⟩ := s
  dsimp only at hns k hx k1 K1 sz hxL
  have hD : h₁.get? C = _ := K1 _ _ hC
  refine ks_wpAt_execs_cons (ks_wpAt_Expr_any (ks_wpAt_MethodCall (pl := pl) ?_ (he _ _ _ _ _)))
  refine ks_wpAt_super_base X.sup X.cls rfl rfl (K1 _ _ hfn) rfl har rfl (K1 _ _ hcda) rfl hvs hfile T.top ?_
  refine ks_loadName_global rfl X.sup (Calls.loadGlobal_builtin (hg.keeps k1) T.nsup (hb1.keeps k1) ((hb2 _ (by decide)).trans (by first | rfl | kernel_rfl)) ⟨rfl, ?_⟩)
  refine wpAny_loadName_free rfl X.cls rfl ⟨_, K1 _ _ hcc, rfl⟩ ?_
  refine wpAny_loadName_local rfl (by rw [ear]; exact X.self) hns (hself ear) ?_
  refine ks_wpAny_isType_cls hD rfl ⟨rfl, ?_⟩
  refine ks_wpAny_call_super hD rfl (k _ _ hx) rfl (fun c z => nomatch z) (looks_mroIn K1 T.mo) (fun h2 e2 k2 => ?_)
  have k12 : ∀ b o, h0.get? b = some o → h2.get? b = some o := fun b o e => k2 b o (k1 b o e)
  have K2 : K.In h2 := fun a o e => k12 a o (k0 a o e)
  have hx2 : h2.get? x = some (excO C t0) := k2 _ _ (k _ _ hx)
  have I2 : InstAt h2 x (excO C t0) C none := ⟨hx2, rfl, rfl, trivial⟩
  have hsu := T.su
  unfold ks_superIn at hsu
  rw [hcl] at hsu
  refine kxs_getMethod kxs_ValueError e2 (looks_opaque K2 T.op) (l₀ := .ref C :: bm) (fun A Q E s k q => wpAny_bind ((looks_clsIn K2 hcl) A _ E s k (wpAny_pure q))) rfl K2 hsu (I2.type.andThen (looks_subIn K2 T.veC)) (ks_ne K2 I2 hcl) (by decide) ?_
  have lt2 : hh.objs.size < h2.objs.size := (hns.keeps k2).lt
  have u0 : h0.get? h2.objs.size = none := by
    cases z : h0.get? h2.objs.size with
    | none => rfl
    | some o => exact absurd (Heap.lt_size (k12 _ _ z)) (Nat.lt_irrefl _)
  have xu : x ≠ h2.objs.size := Nat.ne_of_lt (Heap.lt_size hx2)
  have F3 : Fr h0 hh.objs.size (h2.push (kxs_mw "ValueError.__init__" x)) _ := ⟨(hns.keeps k2).push _, fun b o e => Heap.get?_push_of_some _ (k12 b o e), sz⟩
  have N3 : News h0 hh.objs.size (h2.push (kxs_mw "ValueError.__init__" x)) [(h2.objs.size, kxs_mw "ValueError.__init__" x), (x, excObj C t0 none .none)] := fun p hp => by
    rcases List.mem_cons.mp hp with rfl | hp
    · exact ⟨Heap.get?_push_at rfl rfl, Nat.ne_of_gt lt2, u0⟩
    · rw [List.mem_singleton.mp hp]
      exact ⟨Heap.get?_push_of_some _ hx2, Ne.symm hxL, nx⟩
  refine kxs_callWith1 N3 (List.mem_cons_self ..) ?_ rfl rfl
  refine args_cons (Calls.Constant_str (args_nil ⟨Heap.get?_push_at rfl rfl, ?_⟩)) rfl
  refine kxs_call F3 k0 N3 F.excBase_ValueError T.xi (List.mem_cons_self ..) (.tail (Ne.symm xu) (.head (fun _ z => nomatch z))) (by rw [sizeLine_eq]; exact (by decide : 1 ≤ 16777216)) (fun t4 h4 F4 N4 _ => ?_)
  have hx4 : h4.get? x = some (excObj C t4 none .none) := (N4 (x, excObj C t4 none .none) (by simp)).1
  have K4 : K.In h4 := fun a o e => F4.keep a o (k0 a o e)
  show PySem.wpAt _ _ _ (execs _ _) _ _ _
  refine PySem.wpAt_of_wpAny (wpAny_execs_cons (plainObj_wpAny_Assign_Attribute ?_ rfl))
  refine wpAny_Name (wpAny_loadName_local rfl X.fld F4.ns hfld ?_) X.nd
  refine wpAny_Name (wpAny_loadName_local rfl X.self F4.ns (hself rfl) ?_) (by decide)
  refine set_plain K4 (ox := excO C t4) (od := none) ⟨hx4, rfl, rfl, trivial⟩ T.sa ?_
  refine exc_osa K4 hx4 hcl (show refsVE (.ref C :: bm) = true from hbm) rfl T.noN (fun h5 tk5 dx k5 dn dne hx5 hn5 => ?_)
  show wpAny _ _ (execs _ _) _ _ _
  refine wpAny_execs_nil (hq h5 tk5 dx t4 (fun b o e => ?_) hx5 (Nat.le_trans ?_ dn) dne hn5)
  · exact k5 b o (fun z => by rw [z, nx] at e; cases e) (F4.keep b o e)
  · exact Nat.le_of_lt (Nat.lt_of_le_of_lt sz F4.ns.lt)
theorem sup_made (X : SupTx f ist) (T : SupTxt P K mg cls qual f ist C fI) {v : Value} (K0 : K.In s.heap) (hg : s.heap.Ns mainGlobals mg) (hb : ∃ mb, s.heap.Ns builtinsNs mb ∧ ∀ x : Str, x ≠ "__name__" → mb x = bootBuiltins x) (hlim : s.heap.NoLimit) (hroom : A.depth + 1 < recursionLimit)
    (hq : ∀ h' tk e d, SupMade s.heap h' e C d f v → R (.ok (.ret (.ref e))) { s with heap := h', toks := tk }) : codeAny (model P w) A (.call (.ref C) ⟨[v], []⟩) R s := by
  obtain ⟨nm, q, N, bs, bm, sn, sub, ab, col, dd, m0, m1, m2, m3, m5, hC, hbm⟩ := T.cl
  obtain ⟨hp, g, dr, tk, os⟩ := s
  have k : ∀ b o, hp.get? b = some o → ((hp.push (kdv_tup [v])).push (excO C hp.objs.size)).get? b = some o := fun b o e => Heap.get?_push_of_some _ (Heap.get?_push_of_some _ e)
  have hx : ((hp.push (kdv_tup [v])).push (excO C hp.objs.size)).get? (hp.objs.size + 1) = some (excO C hp.objs.size) := by heap_get
  have nx : hp.get? (hp.objs.size + 1) = none := by
    cases z : hp.get? (hp.objs.size + 1) with
    | none => rfl
    | some o => exact absurd (Nat.lt_of_succ_lt (Heap.lt_size z)) (Nat.lt_irrefl _)
  refine call_own F.excBase_ValueError (fun Y => refsVE_contains Y bm hbm) (K0 _ _ hC) (looks_findIn K0 T.iC) (fun self => bind_fn K0 self T.tI) (by rw [sizeLine_eq]; exact (by decide : 1 ≤ 16777216)) ?_
  refine sup_init (s := ⟨(hp.push (kdv_tup [v])).push (excO C hp.objs.size), g, dr, tk, os⟩) (h0 := hp) X T K0 k (by rw [Heap.size_push, Heap.size_push]; omega) nx hg hb (hlim.keeps k) hx hroom fun h' tk' dx t1 kp hx' dn dne hns => ?_
  exact ⟨rfl, hq h' tk' (hp.objs.size + 1) dx ⟨kp, Nat.le_succ _, ⟨t1, hx'⟩, dn, dne, hns⟩⟩
end
section
variable {X : Cx} {cls qual f : Str} {ist : Stmt} {C fI : Addr} {a : Expr} {ta : TA} {p pos : Pos} {k : Nat}
/-- C(e) -/
theorem pmk_sup (TX : SupTx f ist) (T : SupTxt X.prog X.K X.mg cls qual f ist C fI) (hr : Room (k + 1) X.A) (ha : PA X [a] ta) (hg : Gl X cls) (hdb : (cls == ("__debug__" : Str)) = false := by decide)
    (he : starEach [a] X.env = (false, eval a X.env) :: starEach [] X.env := by rfl) (hpl : (backTo pos (starEach [] X.env)).any (·.1) = false := by rfl) : PMk X (.Call (.Name cls p) [a] [] pos) (tMkF C [f] ta) := by
  intro pins s σ H Q I h
  refine wpAny_Call_Name_kw (ld_glob I hg T.gC ?_ hdb)
  refine callWith_K (h₀ := X.base) I.ok.mod.kin T.kC (thn (ha.run pos pins s σ H _ I h) fun us s1 hh => ?_) he hpl
  obtain ⟨vs, H1, I1, r1, hl, q1⟩ := hh
  refine ⟨I1.kIn, ?_⟩
  cases r1 with
  | nil => cases hl
  | @cons v v' vs' us' rv rn =>
    cases rn with
    | cons _ _ => cases hl
    | nil =>
      have hlim := I1.nolimit
      obtain ⟨hp, g, dr, tk, os⟩ := s1
      obtain ⟨mb, hb1, hb2⟩ := I1.mod.blt
      refine wpAny_call (sup_made TX T I1.kIn (I1.mod.glob.keeps I1.bk) ⟨mb, hb1.keeps I1.bk, hb2⟩ hlim (by have := hr.dp; omega) fun h' tk' e d M => ?_)
      show MkP X pins σ Q (.ref e) ⟨h', g, dr, tk', os⟩
      obtain ⟨t1, hoe⟩ := M.obj
      obtain ⟨G, g1, g2⟩ := restrict h' fun b => decide (b ≠ e)
      have gk : ∀ b, b ≠ e → G.get? b = h'.get? b := fun b hb => g1 b (decide_eq_true hb)
      have ge : G.get? e = none := g2 e (by simp)
      have old : ∀ b o, hp.get? b = some o → G.get? b = some o := fun b o q => (gk b (Nat.ne_of_lt (Nat.lt_of_lt_of_le (Heap.lt_size q) M.new))).trans (M.keep b o q)
      have hns := M.ns
      have ob : ObjOk X.prog X.w (upd H1 d (.xd [(f, v)])) G d (.xd [(f, v)]) := ⟨_, hns.at fun o q => (gk d M.dne).trans q, relO_put (fs := []) rv fun _ => True.intro⟩
      have J : L2.Inv X pins σ (upd H1 d (.xd [(f, v)])) ⟨G, g, dr, tk', os⟩ := I1.laid (t' := tk') old M.dbig ob
      refine ⟨e, _, _, ⟨G, g, dr, tk', os⟩, _, .ref C, some d, rfl, J, fun b o q => ?_, ge, hoe, ⟨rfl, rfl⟩, rfl, rfl, ?_, rfl, I1.bare, raises_own T.exC T.tyC, q1 d (I1.hok.fresh M.dbig)⟩
      · by_cases hb : b = e
        · have q' : G.get? b = some o := q
          rw [hb, ge] at q'
          cases q'
        · exact (gk b hb).symm.trans q
      · rw [upd_ne (Ne.symm M.dne)]
        exact I1.hok.fresh M.new
end
end Mi
set_option maxHeartbeats 2000000
/-! Mi: the error classes, what the written part says of them. -/
namespace Mi
open PySem L2
theorem look_cons {nm c : Str} {b r : Bool} {l : List (Str × Bool)} (h : ((c, b) :: l).lookup nm = some r) : (nm = c ∧ b = r) ∨ l.lookup nm = some r := by
  rw [List.lookup_cons] at h
  cases e : nm == c with
  | true =>
    rw [e] at h
    exact .inl ⟨beq_iff_eq.mp e, Option.some.inj h⟩
  | false =>
    rw [e] at h
    exact .inr h
theorem is_ho {o : Option Bool} {b0 : Bool} {p : Bool → Prop} (h : o = some b0) (q : p b0) : ∀ b, o = some b → p b := fun b hb => by
  rw [h] at hb
  cases hb
  exact q
/-- an own error class -/
structure ErrC (K : PySem.W.Frag) (mg : Str → Option Value) (nm : Str) (C : Addr) : Prop where
  g : mg nm = some (.ref C)
  kp : PySem.W.keepIn K (.ref C) = true
  cl : PySem.W.isClsIn K C = true
  ty : PySem.W.typeIn K (.ref C) = some (.type "type")
  sb : PySem.W.subIn K (.ref C) (.type "BaseException") = some true
  ve : PySem.W.subIn K (.ref C) (.type "ValueError") = some true
  rf : PySem.W.subIn K (.ref C) (.ref C) = some true
  ga : PySem.W.findIn K (.ref C) "__getattribute__" = some (some (.builtin "BaseException.__getattribute__"))
  gg : PySem.W.findIn K (.ref C) "__getattr__" = some none
  ca : PySem.W.findIn K (.ref C) "__class__" = some (some (.builtin "object.__class__"))
  sg : PySem.W.specialIn K (.builtin "object.__class__") "__get__" = some (some (.builtin "getset_descriptor.__get__"))
  tk : PySem.W.takesIn K (.builtin "object.__class__") = some true
  mo : PySem.W.mroIn K C (.type "object") = some true
  hd : PySem.W.hasDictIn K C = true
section
variable {K : PySem.W.Frag} {mg : Str → Option Value} {nm nm2 : Str} {C D : Addr} {b : Bool}
theorem ErrC.kit (E : ErrC K mg nm C) : KitE K C := ⟨E.cl, E.ga, E.gg, E.sb, E.ca, E.sg, E.tk, E.mo⟩
theorem ErrC.xf (E : ErrC K mg nm C) : XfC K C := ⟨E.ga, E.gg, E.sb, E.hd⟩
theorem ErrC.raises {X : Cx} (E : ErrC X.K mg nm C) : Raises X (.ref C) := raises_own E.sb E.ty
theorem ErrC.kcls (E : ErrC K mg nm C) (F : ErrC K mg nm2 D) (s : PySem.W.subIn K (.ref C) (.ref D) = some b) : PySem.W.kitCls K (.ref C) (.ref D) = some b := by
  show (if ((PySem.W.clsIn K D).isSome && PySem.W.typeIn K (.ref D) == some (.type "type")) = true then PySem.W.subIn K (.ref C) (.ref D) else none) = some b
  have h : (PySem.W.clsIn K D).isSome = true := F.cl
  rw [h, F.ty]
  exact s
/-- except: does D's clause take an error of C? -/
theorem ErrC.exm (E : ErrC K mg nm C) (F : ErrC K mg nm2 D) (s : PySem.W.subIn K (.ref C) (.ref D) = some b) : PySem.W.exmOne K (.ref C) (.ref D) = some b := by
  show (if (PySem.W.subIn K (.ref D) (.type "BaseException") == some true) = true then PySem.W.kitCls K (.ref C) (.ref D) else none) = some b
  rw [F.sb]
  exact E.kcls F s
/-- isinstance -/
theorem ErrC.one (E : ErrC K mg nm C) (F : ErrC K mg nm2 D) (s : PySem.W.subIn K (.ref C) (.ref D) = some b) : PySem.W.kitOne K (.ref C) (.ref D) = some b := by
  unfold PySem.W.kitOne
  by_cases z : ((Value.ref C : Value) == .ref D) = true
  · rw [if_pos z]
    have e : C = D := Value.ref.inj (beq_iff_eq.mp z)
    subst e
    rw [E.rf] at s
    exact s
  · rw [if_neg z]
    exact E.kcls F s
theorem ErrC.oneV (E : ErrC K mg nm C) : PySem.W.kitOne K (.ref C) (.type "ValueError") = some true := by
  unfold PySem.W.kitOne
  rw [if_neg (by simp)]
  show (if PySem.W.kitMeta "ValueError" = true then PySem.W.subIn K (.ref C) (.type "ValueError") else none) = some true
  rw [if_pos (by decide +kernel)]
  exact E.ve
theorem kit_nil {t : Value} : PySem.W.kitAny K t [] = some false := rfl
theorem kit_cons {t c : Value} {cs : List Value} {r : Bool} (h : PySem.W.kitOne K t c = some b) (hr : PySem.W.kitAny K t cs = some r) : PySem.W.kitAny K t (c :: cs) = some (b || r) := kitAny_cons h (fun e => by
  subst e
  rw [hr]
  rfl) fun e => by
  subst e
  rfl
theorem mg_inj {v w : Value} (h : mg nm = some v) (k : mg nm = some w) : v = w := Option.some.inj (h.symm.trans k)
end
end Mi
set_option maxHeartbeats 2000000
/-! Mi: isinstance of an error that is made for it. -/
namespace Mi
open PySem L2
section
variable {X : Cx} {pins : List (Addr × Obj)} {σ : St} {H : Hp} {s : Shared} {a C : Addr} {oe : Obj} {d : Option Addr}
theorem isX_run {xs : List V} {us : List Value} {Q : VK} (T : KitE X.K C) (hz : Zc (.ref C) d oe) (hf : ∃ vs, oe.data = .fields vs) (hp : (a, oe) ∈ X.pn ++ pins) (I : Inv X pins σ H s) (r : Vals xs us) (h : rIsX X.K C a d xs H Q) :
    wpAny (model X.prog X.w) X.A (call (.builtin "isinstance") us) (EP X pins σ Q) X.xe s := by
  obtain ⟨hd, h⟩ := h
  obtain ⟨hget, _⟩ := I.pin (a, oe) hp
  obtain ⟨vs, hv⟩ := hf
  have J : ∃ od, PySem.W.InstAt s.heap a oe C od := by
    rcases hd with rfl | ⟨p, fs, rfl, hp⟩
    · exact ⟨none, hget, hz.1, by unfold PySem.W.notCls; rw [hv] <;> rfl, by rw [hz.2]; trivial⟩
    · have hx : ObjOk X.prog X.w H s.heap p (.xd fs) := I.hok p _ hp
      obtain ⟨mA, hns, hr⟩ := hx
      obtain ⟨od, ho, hl⟩ := lookIn_ns hns
      exact ⟨some od, hget, hz.1, by unfold PySem.W.notCls; rw [hv] <;> rfl, by rw [hz.2]; exact ho⟩
  obtain ⟨od, J⟩ := J
  have Z := PySem.W.kitx_exc (x := a) (ox := oe) (od := od) T.cl T.ga T.gg T.sb T.ca T.sg T.tk T.mo
  rcases h with ⟨k, u, b, rfl, hk, e, q⟩ | ⟨tp, ks, ws, b, rfl, hT, hk, e, q⟩
  · obtain ⟨u1, u2, rfl, r1, r2⟩ := vals2 r
    have e2 := hk.eq r2
    subst e2
    cases (show u1 = Value.ref a from r1)
    exact PySem.W.kia_one Z I.kIn J e (fun z => nomatch z) fun tk => ⟨.bl b, H, I.tok tk, rfl, q⟩
  · obtain ⟨u1, u2, rfl, r1, r2⟩ := vals2 r
    cases (show u1 = Value.ref a from r1)
    cases (show u2 = Value.ref tp from r2)
    obtain ⟨_, its, rv, o, h1, h2, n, h3⟩ := (show ObjOk X.prog X.w H s.heap tp (.tup ks) from I.hok tp _ hT)
    have e3 := ClsV.all hk rv
    subst e3
    obtain ⟨oc, od', dt, sl⟩ := o
    simp only at h2 h3
    subst h2 h3
    exact PySem.W.kia_tup Z I.kIn J h1 e (fun z => nomatch z) fun tk => ⟨.bl b, H, I.tok tk, rfl, q⟩
/-- the made error lies there, pinned -/
theorem mk_pin {Q : XK} {u : Value} {s' : Shared} (m : MkP X pins σ Q u s') : ∃ (a : Addr) (oe : Obj) (H' : Hp) (cls : Value) (d : Option Addr), u = .ref a ∧ L2.Inv X ((a, oe) :: pins) σ H' s' ∧ Zc cls d oe ∧ (∃ vs, oe.data = .fields vs) ∧ Q cls d H' := by
  obtain ⟨a, oe, vs, sI, H', cls, d, rfl, J, k, hne, ha, hz, hd, h1, na, os, ag, r, q⟩ := m
  have J1 : L2.Inv X pins σ H' s' := J.landed (B := PySem.W.hideAll sI.heap (frs X.stack)) (fun b o e hb => PySem.W.hideAll_get _ e hb) (fun b o e => k b o (PySem.W.of_hideAll _ e)) (Heap.UpToSlots.of_keeps k) os ag
  have nL : a ≠ X.env.locals := fun z => by
    obtain ⟨m, hn, _⟩ := J.loc
    obtain ⟨o, _, _, e, _⟩ := hn
    rw [z, e] at hne
    cases hne
  have nF : a ∉ X.fs := fun hm => by
    obtain ⟨_, o, e, _⟩ := J.ok.funs.mem hm
    obtain ⟨sl, e2⟩ := J.base.slot a o e (J.ok.frf a hm) hm fun hx => J.ok.exfs a hx hm
    rw [hne] at e2
    cases e2
  refine ⟨a, oe, H', cls, d, rfl, ⟨J1.ok, J1.os, J1.bare, J1.base, J1.loc, J1.cell, J1.free, J1.freeC, fun p hp => ?_, J1.hok, J1.len⟩, hz, ⟨vs, hd⟩, q⟩
  rcases List.mem_append.mp hp with hp | hp
  · exact J1.pin p (List.mem_append_left _ hp)
  · rcases List.mem_cons.mp hp with rfl | hp
    · exact ⟨ha, na, nL, nF, fun v z => by rw [hd] at z; cases z⟩
    · exact J1.pin p (List.mem_append_right _ hp)
theorem un_pin (I : L2.Inv X ((a, oe) :: pins) σ H s) : L2.Inv X pins σ H s := ⟨I.ok, I.os, I.bare, I.base, I.loc, I.cell, I.free, I.freeC, fun p hp => I.pin p ((List.mem_append.mp hp).elim (List.mem_append_left _) fun h => List.mem_append_right _ (List.mem_cons_of_mem _ h)), I.hok, I.len⟩
end
/-- isinstance(C(..), ..), the answer known -/
@[simp ↓] def isK (m : MM (List MV)) (n : Nat) (b : Bool) : ME := fun s h => (m s h).bnd fun xs h1 => if xs.length = n then ok (.bl b) h1 else none
/-- the second argument: what its evaluation leaves -/
def tSnd (tT : TE) (K : PySem.W.Frag) (C : Addr) (b : Bool) (d : Option Addr) : St → Hp → VK → Prop := fun σ H Q => tT σ H fun k H2 => ∀ a, rIsX K C a d [.ref a, k] H2 Q
section
variable {X : Cx} {c : XC} {C : Addr} {mk T : Expr} {t : St → Hp → XK → Prop} {tT : TE} {p pos : Pos}
theorem pe_isMk (hmk : PMk X mk t) (TE : KitE X.K C) (hg : Gl X "isinstance") (hm : X.mg "isinstance" = none) (hT : PE X T tT) (hs : starEach [mk, T] X.env = (false, eval mk X.env) :: starEach [T] X.env := by rfl) (hs2 : starEach [T] X.env = (false, eval T X.env) :: starEach [] X.env := by rfl)
    (hpl : (backTo pos (starEach [T] X.env)).any (·.1) = false := by rfl) : PE X (.Call (.Name "isinstance" p) [mk, T] [] pos) (fun σ H Q => t σ H fun cls d H1 => cls = .ref C ∧ tT σ H1 fun k H2 => ∀ a, rIsX X.K C a d [.ref a, k] H2 Q) := by
  refine ⟨fun pins s σ H Q I h => ?_⟩
  refine wpAny_Call_Name_kw (ld_blt I hg hm PyProof.Rows.boot_isinstance ?_ (by decide) (by decide))
  refine PyProof.Rows.callWith_builtin1 (PyProof.Rows.args_cons (wpAny_mono (hmk pins s σ H _ I h) (fun v s1 hv => ?_) fun _ _ x => x) hs) hs hpl
  obtain ⟨a, oe, H', cls, d, rfl, J, hz, hf, rfl, q⟩ := mk_pin hv
  refine PyProof.Rows.args_cons (thn (hT.run ((a, oe) :: pins) s1 σ H' _ J q) fun w s2 hw => ?_) hs2
  obtain ⟨k, H2, J2, rk, q2⟩ := hw
  refine PyProof.Rows.args_nil ?_
  refine wpAny_mono (isX_run TE hz hf (List.mem_append_right _ (List.mem_cons_self ..)) J2 (.cons (show RelV (.ref a) (.ref a) from rfl) (.cons rk .nil)) (q2 a)) (fun v s3 hv => ?_) fun _ _ x => x
  obtain ⟨v', H3, J3, rv, q3⟩ := hv
  exact ⟨v', H3, un_pin J3, rv, q3⟩
theorem em_isMk0 {k : V} {u : Value} {b : Bool} (hmk : PMk X mk fun _ H Q => Q (.ref C) none H) (TE : KitE X.K C) (hg : Gl X "isinstance") (hm : X.mg "isinstance" = none) (hT : PE X T (tC k)) (hk : ClsV k u) (hb : PySem.W.kitOne X.K (.ref C) u = some b)
    (hs : starEach [mk, T] X.env = (false, eval mk X.env) :: starEach [T] X.env := by rfl) (hs2 : starEach [T] X.env = (false, eval T X.env) :: starEach [] X.env := by rfl) (hpl : (backTo pos (starEach [T] X.env)).any (·.1) = false := by rfl) :
    EM X c (.Call (.Name "isinstance" p) [mk, T] [] pos) (isK nilA 0 b) := pe_wk (pe_isMk hmk TE hg hm hT hs hs2 hpl) fun σ H Q ⟨W, h, s, eW, S, rs, q⟩ => by
  subst eW
  exact ⟨rfl, fun a => ⟨.inl rfl, .inl ⟨k, u, b, rfl, hk, hb, q W (Ext.refl W) S _ (.bl b)⟩⟩⟩
theorem em_isMk0T {Ts : List Expr} {n : Nat} {p3 : Pos} {ks : List V} {us : List Value} {tt : TA} {b : Bool} (hmk : PMk X mk fun _ H Q => Q (.ref C) none H) (TE : KitE X.K C) (hg : Gl X "isinstance") (hm : X.mg "isinstance" = none) (hT : PA X Ts tt) (htt : ∀ σ H Q, Q ks H → tt σ H Q) (hl : ks.length ≤ 100)
    (hk : Paired ClsV ks us) (hb : PySem.W.kitAny X.K (.ref C) us = some b) (hs : starEach [mk, .Tuple Ts n p3] X.env = (false, eval mk X.env) :: starEach [.Tuple Ts n p3] X.env := by rfl) (hs2 : starEach [.Tuple Ts n p3] X.env = (false, eval (.Tuple Ts n p3) X.env) :: starEach [] X.env := by rfl)
    (hpl : (backTo pos (starEach [.Tuple Ts n p3] X.env)).any (·.1) = false := by rfl) : EM X c (.Call (.Name "isinstance" p) [mk, .Tuple Ts n p3] [] pos) (isK nilA 0 b) := pe_wk (pe_isMk hmk TE hg hm (pe_tup hT) hs hs2 hpl) fun σ H Q ⟨W, h, s, eW, S, rs, q⟩ => by
  subst eW
  refine ⟨rfl, htt _ _ _ ⟨Nat.le_trans hl (by rw [PySem.sizeLine_eq]; decide), fun tp hq a => ?_⟩⟩
  exact ⟨.inl rfl, .inr ⟨tp, ks, us, b, rfl, upd_same, hk, hb, q _ (Ext.put S hq) (S.put hq) _ (.bl b)⟩⟩
theorem em_isMkD {k : V} {u : Value} {b : Bool} {fns : List Str} {m : MM (List MV)} {nf : Nat} (hmk : PMk X mk (tMkF C fns (tMA X.K c m))) (hnf : fns.length = nf) (TE : KitE X.K C) (hg : Gl X "isinstance") (hm : X.mg "isinstance" = none) (hT : PE X T (tC k)) (hk : ClsV k u) (hb : PySem.W.kitOne X.K (.ref C) u = some b)
    (hs : starEach [mk, T] X.env = (false, eval mk X.env) :: starEach [T] X.env := by rfl) (hs2 : starEach [T] X.env = (false, eval T X.env) :: starEach [] X.env := by rfl) (hpl : (backTo pos (starEach [T] X.env)).any (·.1) = false := by rfl) :
    EM X c (.Call (.Name "isinstance" p) [mk, T] [] pos) (isK m nf b) := pe_wk (pe_isMk hmk TE hg hm hT hs hs2 hpl) fun σ H Q ⟨W, h, s, eW, S, rs, q⟩ => by
  subst eW
  refine ⟨W, h, s, rfl, S, rs, q.bnd fun W1 h1 xs x1 S1 p1 vs r1 => ?_⟩
  by_cases z : xs.length = nf
  · rw [if_pos z] at p1
    refine ⟨by rw [← r1.length, z, hnf], fun d hd => ⟨rfl, fun a => ⟨.inr ⟨d, _, rfl, upd_same⟩, .inl ⟨k, u, b, rfl, hk, hb, p1 _ (Ext.put S1 hd) (S1.put hd) _ (.bl b)⟩⟩⟩⟩
  · rw [if_neg z] at p1
    exact p1.elim
end
end Mi
set_option maxHeartbeats 2000000
/-! Mi: try with several clauses, each with a name. -/
namespace Mi
open PySem L2 PySem.Spec PyProof.Rows
abbrev Sui := Addr → Value → Option Addr → TS
def endsW (i : Nat) (D : Ends) : Ends where
  nx := fun τ G => D.nx (τ.set i none) G
  rt := D.rt
  bk := fun τ G => D.bk (τ.set i none) G
  ct := fun τ G => D.ct (τ.set i none) G
/-- what the named clauses wish, one behind the other: class, slot, suite -/
def wNamed (K : PySem.W.Frag) (Wout : WX) (D : Ends) : List (Value × Nat × Sui) → WX
  | [] => Wout
  | (c, i, ts) :: r => fun k d τ G => ∃ b, PySem.W.exmOne K k c = some b ∧ (b = true → ∀ a, G a = none → ts a k d (endsW i D) (τ.set i (some (.ref a))) G) ∧ (b = false → wNamed K Wout D r k d τ G)
inductive HdsN (X : Cx) : List ExceptHandler → List (Value × Nat × Sui) → Prop
  | nil : HdsN X [] []
  | cons {x n : Str} {c : Value} {i : Nat} {ts : Sui} {b₀ : Stmt} {rest : List Stmt} {q1 q2 : Pos} {hds : List ExceptHandler} {l : List (Value × Nat × Sui)} (hc : Names X x c) (hi : X.N[i]? = some n) (hl : X.env.kindOf n = some .local)
      (hsu : ∀ (a : Addr) (oe : Obj) (k : Value) (d : Option Addr) (pn : List (Addr × Obj)), Zc k d oe → (∃ vs, oe.data = .fields vs) → PSs (X.suite a ((a, oe) :: pn)) (b₀ :: rest) (ts a k d)) (r : HdsN X hds l) :
      HdsN X (.ExceptHandler (some (.Name x q1)) (some n) (b₀ :: rest) q2 :: hds) ((c, i, ts) :: l)
section
variable {X : Cx} {body : List Stmt} {h₀ : ExceptHandler} {hds : List ExceptHandler} {l : List (Value × Nat × Sui)} {pos : Pos} {tb : WX → TS} {Wout : WX}
/-- the clauses, looked at in turn with the error on the ground -/
theorem hds_run {pins : List (Addr × Obj)} {τ : L2.St} {G : Hp} {D : Ends} {a : Addr} {B : Heap} {sI s' : Shared} {k : Value} {d : Option Addr} (hs : X.stack = X.env :: X.outer) (hf : X.env.frame = some X.env.locals) (hN : X.N.Nodup) (tk : Takes X Wout) (J : L2.Inv X pins τ G sI)
    (nb : ∀ b o, sI.heap.get? b = some o → b ∉ frs X.stack → B.get? b = some o) (os : s'.os = sI.os) (ag : AllBare s'.gens) (na : G a = none) (fl : HandSPX.FlyingZ B (X.env :: X.outer) a (Zc k d) s'.heap) (up : sI.heap.UpToSlots s'.heap) :
    ∀ {hds : List ExceptHandler} {l : List (Value × Nat × Sui)}, HdsN X hds l → wNamed X.K Wout D l k d τ G → wpAny (model X.prog X.w) X.A (handleBy (.ref a) X.env hds) (SP X pins D) X.xe s' := by
  intro hds l hk
  have okX := J.ok
  have J3 : L2.Inv X pins τ G s' := J.landed nb fl.1 up os ag
  obtain ⟨o3, v3, g3, z3, d3⟩ := fl.there
  have nfr : a ∉ frs (X.env :: X.outer) := fun hm => by
    obtain ⟨_, o', e', hnf⟩ := fl.2.2.1.mem hm
    rw [g3] at e'
    cases e'
    exact hnf _ d3
  have nL : a ≠ X.env.locals := fun z => nfr (List.mem_filterMap.mpr ⟨X.env, List.mem_cons_self, by rw [hf, z]⟩)
  have nF : a ∉ X.fs := fun hm => by
    obtain ⟨e, he, q⟩ := List.mem_filterMap.mp hm
    exact nfr (List.mem_filterMap.mpr ⟨e, List.mem_cons_of_mem _ he, q⟩)
  induction hk with
  | nil =>
    intro w
    obtain ⟨k1, k2, k3, oe, vs, T, oT, ts', he, hz, hd, h1, hr⟩ := id fl
    refine wpAny_handleBy_nil ?_
    unfold PySem.passOn
    refine wpAny_bind (wpAny_field he hd h1 ?_)
    rw [if_neg (by simp)]
    have fin : wpAny (model X.prog X.w) X.A (setFlight (.ref a) X.env.frame) (fun _ u => wpAny (model X.prog X.w) X.A (throw (.ref a) : Sem Flow) (SP X pins D) X.xe u) X.xe s' := by
      rw [hf]
      refine HandSPX.setFlight_upZ fl fun h4 hh4 up4 => wpAny_throw (tk _ _ ⟨a, B, sI, pins, τ, G, k, d, rfl, J, nb, up.trans up4, .inr (.inr ?_), na, os, ag, w⟩)
      rw [hs]
      exact hh4
    first
      | exact wpAny_bind (wpAny_pure (wpAny_bind fin))
      | exact wpAny_bind fin
  | @cons x n c i ts b₀ rest q1 q2 hds2 l2 hc hi hl hsu r ih =>
    intro w
    obtain ⟨b, hb1, hyes, hno⟩ := w
    refine wpAny_handleBy_cons (codeAny_handlers_test ?_) (by intro q; cases q)
    have S3 := J3.suite g3 d3 na nL nF
    have LT : PySem.W.Looks (model X.prog X.w) s'.heap (typeOf (.ref a)) k := fun A Q E u kk q => wpAny_typeOf_ref (kk _ _ g3) (by rw [z3.1]; exact q)
    have LM := PySem.W.exm_one (M := model X.prog X.w) J3.kIn LT hb1
    have look : ∀ {Q E : Value → Shared → Prop}, Q c s' → wpAny (model X.prog X.w) (X.A.mark (some (.ref a))) (eval (.Name x q1) X.env) Q E s' := fun {Q E} q => by
      obtain ⟨hg, hdbg, hm⟩ := hc
      rcases hm with hm | ⟨hm, hv, hnn⟩
      · exact ld_glob (X := X.suite a ((a, o3) :: (X.pn ++ pins))) S3 hg hm q hdbg
      · exact ld_blt (X := X.suite a ((a, o3) :: (X.pn ++ pins))) S3 hg hm hv q hnn hdbg
    refine look (LM.here ?_)
    cases b with
    | false =>
      show wpAny _ X.A (handleBy (.ref a) X.env hds2) _ _ _
      exact ih (hno rfl)
    | true =>
      refine codeAny_handlers_suite_as (HandSPX.lands_againZ fl fun h4 fl4 up4 => ?_)
      have J4 : L2.Inv X pins τ G { s' with heap := h4 } := J.landed nb fl4.1 (up.trans up4) os ag
      obtain ⟨o4, v4, g4, z4, d4⟩ := fl4.there
      refine store_ok (X := X.suite a ((a, o4) :: (X.pn ++ pins))) (v := .ref a) (J4.suite g4 d4 na nL nF) hN hi (.inl hl) rfl (fun s5 S5 => ?_) (.inr hl)
      refine wpAny_mono ((hsu a o4 k d (X.pn ++ pins) z4 ⟨_, d4⟩).run [] s5 _ G _ S5 (hyes rfl a na)) (fun f s6 hsp => ?_) fun _ _ z => z.elim
      have ende : ∀ {τ6 : L2.St} {G6 : Hp} {Q : Shared → Prop}, L2.Inv (X.suite a ((a, o4) :: (X.pn ++ pins))) [] τ6 G6 s6 → (∀ s7, L2.Inv X pins (τ6.set i none) G6 s7 → Q s7) → wpAny (model X.prog X.w) X.A (do bindName X.env n .none; unbindBehindTheSuite X.env n q2) (fun _ s7 => Q s7) X.xe s6 :=
        fun {τ6 G6 Q} S6 hq => gone_ok (S6.unsuite okX) hN hi hl hq
      cases f with
      | next =>
        obtain ⟨τ6, G6, S6, e6⟩ := hsp
        exact ende S6 fun s7 J7 => ⟨_, _, J7, e6⟩
      | brk =>
        obtain ⟨τ6, G6, S6, e6⟩ := hsp
        exact ende S6 fun s7 J7 => ⟨_, _, J7, e6⟩
      | cont =>
        obtain ⟨τ6, G6, S6, e6⟩ := hsp
        exact ende S6 fun s7 J7 => ⟨_, _, J7, e6⟩
      | ret u =>
        obtain ⟨v6, τ6, G6, S6, r6, e6⟩ := hsp
        exact ende S6 fun s7 J7 => ⟨_, _, _, J7, r6, e6⟩
theorem ps_try_named (hs : X.stack = X.env :: X.outer) (hf : X.env.frame = some X.env.locals) (hN : X.N.Nodup) (tk : Takes X Wout)
    (hb : ∀ (W : WX) (pn : List (Addr × Obj)) (xe : Value → Shared → Prop), Takes (X.tr pn xe) W → PassesOwn (model X.prog X.w) X.A X.env xe → PSs (X.tr pn xe) body (tb W)) (hh : HdsN X (h₀ :: hds) l) :
    PS X (.Try body (h₀ :: hds) [] [] pos) fun D σ H => tb (wNamed X.K Wout D l) D σ H := by
  refine ⟨fun pins s σ H D I h => wpAny_Try_except ?_⟩
  have okX := I.ok
  have fr : X.A.frames = some (X.env :: X.outer) := okX.frames.trans (by rw [hs])
  have run := (hb (wNamed X.K Wout D l) (X.pn ++ pins) (fun e t => wpAny (model X.prog X.w) X.A (noteFrame e X.env) (fun _ t2 => wpAny (model X.prog X.w) X.A (setFlight e none) (fun _ t3 => wpAny (model X.prog X.w) X.A (handleBy e X.env (h₀ :: hds)) (SP X pins D) X.xe t3) X.xe t2) X.xe t) (fun u s' xx => by
    obtain ⟨a, B, sI, pins', τ, G, k, d, rfl, J', nb, up, sky, na, os, ag, w⟩ := xx
    have sky2 : Sky B (X.env :: X.outer) a (Zc k d) X.env.locals s'.heap := by
      rw [← hs]
      exact sky
    exact Sky.land Zc.steady fr hf sky2 fun h3 fl3 up3 => hds_run (s' := { s' with heap := h3 }) hs hf hN tk (J'.ofTry okX) nb os ag na fl3 (up.trans up3) hh w) PassesOwn.looking).run [] s σ H D (I.toTry _) h
  refine wpAny_mono run (fun f s1 hsp => ?_) fun e s1 he => he
  cases f with
  | ret u =>
    obtain ⟨v, τ, G, J, r, e⟩ := hsp
    exact ⟨v, τ, G, J.ofTry okX, r, e⟩
  | next =>
    obtain ⟨τ, G, J, e⟩ := hsp
    exact wpAny_execs_nil ⟨τ, G, J.ofTry okX, e⟩
  | brk =>
    obtain ⟨τ, G, J, e⟩ := hsp
    exact ⟨τ, G, J.ofTry okX, e⟩
  | cont =>
    obtain ⟨τ, G, J, e⟩ := hsp
    exact ⟨τ, G, J.ofTry okX, e⟩
end
end Mi
set_option maxHeartbeats 2000000
/-! Mi: several clauses, by their mirrors. -/
namespace Mi
open PySem L2
abbrev Cls := List (Str × Bool) × Nat × (Str → Addr → Option Addr → MT)
noncomputable def hdsM (n : Nat) (e : MX) (h1 : MH) : List Cls → Option OutS
  | [] => some (.ex e h1)
  | (tab, i, suite) :: r => match tab.lookup e.cls with
    | some true => allAd fun a d => wipeR i (suite e.cls a d ((List.replicate n none).set i (some (exV e a d))) h1)
    | some false => hdsM n e h1 r
    | none => none
/-- try: body, clauses with names -/
noncomputable def tryN (body : MT) (n : Nat) (cs : List Cls) : MT := fun s h => match body s h with
  | some (.ex e h1) => hdsM n e h1 cs
  | r => r
def suiT (K : PySem.W.Frag) (mg : Str → Option Value) (tab : List (Str × Bool)) (ms : Str → Addr → Option Addr → MT) : Sui := fun a k d D σ H => ∃ nm, tab.lookup nm = some true ∧ mg nm = some k ∧ tS K ⟨mg, fun _ _ _ => False⟩ (ms nm a d) D σ H
inductive HdsM (X : Cx) : List ExceptHandler → List Cls → List (Value × Nat × Sui) → Prop
  | nil : HdsM X [] [] []
  | cons {x y : Str} {cv : Value} {i : Nat} {tab : List (Str × Bool)} {ms : Str → Addr → Option Addr → MT} {b₀ : Stmt} {rest : List Stmt} {q1 q2 : Pos} {hds : List ExceptHandler} {cs : List Cls} {l : List (Value × Nat × Sui)} (hc : Names X x cv) (hi : X.N[i]? = some y) (hl : X.env.kindOf y = some .local)
      (htab : ∀ nm b, tab.lookup nm = some b → ∀ C, X.mg nm = some C → PySem.W.exmOne X.K C cv = some b)
      (hsu : ∀ nm, tab.lookup nm = some true → ∀ C, X.mg nm = some C → ∀ (a : Addr) (oe : Obj) (d : Option Addr) (pn : List (Addr × Obj)), Zc C d oe → (∃ vs, oe.data = .fields vs) → SsM (X.suite a ((a, oe) :: pn)) ⟨X.mg, fun _ _ _ => False⟩ (b₀ :: rest) (ms nm a d)) (r : HdsM X hds cs l) :
      HdsM X (.ExceptHandler (some (.Name x q1)) (some y) (b₀ :: rest) q2 :: hds) ((tab, i, ms) :: cs) ((cv, i, suiT X.K X.mg tab ms) :: l)
section
variable {X : Cx} {E : XK} {body : List Stmt} {h₀ : ExceptHandler} {hds : List ExceptHandler} {pos : Pos} {mb : MT} {cs : List Cls} {l : List (Value × Nat × Sui)}
theorem HdsM.named (h : HdsM X hds cs l) : HdsN X hds l := by
  induction h with
  | nil => exact .nil
  | cons hc hi hl htab hsu r ih =>
    refine .cons hc hi hl (fun a oe k d pn hz hv => ⟨fun pins s σ H D I q => ?_⟩) ih
    obtain ⟨nm, h1, h2, q⟩ := q
    exact (hsu nm h1 k h2 a oe d pn hz hv).run pins s σ H D I q
theorem wipe_ends {K : PySem.W.Frag} {c : XC} {D : Ends} {W : Wd} {i : Nat} {r : Option OutS} {o : OutS} {c2 : XC} (e : wipeR i r = some o) (p : PstS K c D W (some o)) : PstS K c2 (endsW i D) W r := by
  cases r with
  | none => cases e
  | some o2 =>
    cases o2 with
    | nx s2 h2 =>
      cases e
      exact fun W2 σ2 x2 S2 r2 => p W2 _ x2 S2 (r2.clr i none)
    | ret v2 h2 =>
      cases e
      exact p
    | brk s2 h2 =>
      cases e
      exact fun W2 σ2 x2 S2 r2 => p W2 _ x2 S2 (r2.clr i none)
    | cnt s2 h2 =>
      cases e
      exact fun W2 σ2 x2 S2 r2 => p W2 _ x2 S2 (r2.clr i none)
    | ex e2 h2 => cases e
theorem hdsM_ok {n : Nat} {D : Ends} {W W1 : Wd} {e : MX} {h1 : MH} {C : Value} {d : Option Addr} {σ1 : St} (x1 : Ext W W1) (S1 : Sim X.K W1 h1) (xr : XR X.K ⟨X.mg, E⟩ W1 e C d) (hl : σ1.length = n) (h : HdsM X hds cs l) :
    PstS X.K ⟨X.mg, E⟩ D W (hdsM n e h1 cs) → wNamed X.K (fun cls d _ H => E cls d H) D l C d σ1 W1.H := by
  have hC : X.mg e.cls = some C := xr.1
  induction h with
  | nil => exact fun p => p W1 C d x1 S1 xr
  | @cons x y cv i tab ms b₀ rest q1 q2 hds cs l hc hi hln htab hsu r ih =>
    intro p
    unfold hdsM at p
    cases ht : tab.lookup e.cls with
    | none =>
      simp only [ht] at p
      exact p.elim
    | some b =>
      simp only [ht] at p
      refine ⟨b, htab _ _ ht _ hC, fun eb a ha => ?_, fun eb => ?_⟩
      · subst eb
        have p2 : PstS X.K ⟨X.mg, E⟩ D W (allAd fun a d => wipeR i (ms e.cls a d ((List.replicate n none).set i (some (exV e a d))) h1)) := p
        cases hg : (allAd fun a d => wipeR i (ms e.cls a d ((List.replicate n none).set i (some (exV e a d))) h1)) with
        | none =>
          rw [hg] at p2
          exact p2.elim
        | some o =>
          rw [hg] at p2
          exact ⟨e.cls, ht, hC, W1, h1, _, rfl, S1, (rs_none hl).set (exV_rv xr a) i, wipe_ends (allAd_at hg a d) (PstS.shift x1 p2)⟩
      · subst eb
        exact ih p
theorem s_try_named {n : Nat} (hn : X.N.length = n) (hs : X.stack = X.env :: X.outer) (hf : X.env.frame = some X.env.locals) (hN : X.N.Nodup) (tk : Tk X E)
    (hb : ∀ (E' : XK) (pn : List (Addr × Obj)) (xe : Value → Shared → Prop), Tk (X.tr pn xe) E' → PassesOwn (model X.prog X.w) X.A X.env xe → SsM (X.tr pn xe) ⟨X.mg, E'⟩ body mb) (hh : HdsM X (h₀ :: hds) cs l) :
    SM X ⟨X.mg, E⟩ (.Try body (h₀ :: hds) [] [] pos) (tryN mb n cs) := by
  refine ps_wk (ps_try_named (Wout := fun cls d _ H => E cls d H) (tb := fun W => tS X.K ⟨X.mg, anyS n W⟩ mb) hs hf hN tk (fun W pn xe t po => hb _ pn xe (tk_any hn t) po) hh.named) fun D σ H q => ?_
  obtain ⟨W, h, s, rfl, S, rs, p⟩ := q
  refine ⟨W, h, s, rfl, S, rs, ?_⟩
  have p' : PstS X.K ⟨X.mg, E⟩ D W (match mb s h with
    | some (.ex e h1) => hdsM n e h1 cs
    | r => r) := p
  cases hm : mb s h with
  | none =>
    rw [hm] at p'
    exact p'.elim
  | some o =>
    rw [hm] at p'
    cases o with
    | nx s1 h1 => exact p'
    | ret x1 h1 => exact p'
    | brk s1 h1 => exact p'
    | cnt s1 h1 => exact p'
    | ex e h1 => exact fun W1 C d x1 S1 xr σ1 hl => hdsM_ok x1 S1 xr hl hh p'
end
end Mi
set_option maxHeartbeats 2000000
/-! Mi: places behind a call or a turn are forgotten; slots are wiped. -/
namespace Mi
open PySem L2
mutual
/-- no place from n on in it -/
def cloV (n : Nat) : MV → Bool
  | .ref l => decide (l < n)
  | .tup xs => cloL n xs
  | .ktp xs => cloL n xs
  | .fls xs => cloL n xs
  | .frz xs => cloL n xs
  | .exc _ _ _ xs => cloL n xs
  | .non => true
  | .bl _ => true
  | .int _ => true
  | .str _ => true
def cloL (n : Nat) : List MV → Bool
  | [] => true
  | x :: xs => cloV n x && cloL n xs
end
def cloO (n : Nat) : MO → Bool
  | .dead => true
  | .lst xs => cloL n xs
  | .dK kvs => cloL n (kvs.map (·.2))
  | .ins _ kvs => cloL n (kvs.map (·.2))
def cloS (n : Nat) : MS → Bool
  | [] => true
  | none :: s => cloS n s
  | some x :: s => cloV n x && cloS n s
def CutOk (h h' : MH) : Prop := h.length ≤ h'.length ∧ ∀ i, i < h.length → h'[i]? = h[i]? ∨ ∃ o, h'[i]? = some o ∧ cloO h.length o = true
open Classical in
noncomputable def cutF (f : MF) : MF := fun xs h => match f xs h with
  | some (.ok v h') => if cloV h.length v = true ∧ CutOk h h' then ok v (h'.take h.length) else ok v h'
  | r => r
def Wd.cut (W : Wd) (n : Nat) : Wd := ⟨fun l => if l < n then W.f l else none, n, W.H, W.hid⟩
section
variable {K : PySem.W.Frag} {W W0 : Wd}
theorem Wd.cut_some {n l : Nat} {a : Addr} (e : (W.cut n).f l = some a) : l < n ∧ W.f l = some a := by
  have e' : (if l < n then W.f l else none) = some a := e
  by_cases h : l < n
  · rw [if_pos h] at e'
    exact ⟨h, e'⟩
  · rw [if_neg h] at e'
    cases e'
theorem Stab.cut {n : Nat} {p : Addr} (s : Stab W p) : Stab (W.cut n) p := ⟨fun l e => s.1 l (Wd.cut_some e).2, s.2⟩
mutual
theorem RV.cutp {n : Nat} : ∀ {m : MV} {v : V}, cloV n m = true → RV K W m v → RV K (W.cut n) m v
  | _, _, _, .non => .non
  | _, _, _, .bl b => .bl b
  | _, _, _, .int i => .int i
  | _, _, _, .str s => .str s
  | _, _, q, .ref lt e => .ref (of_decide_eq_true q) fun b hb => e b (Wd.cut_some hb).2
  | _, _, q, .tup s e r => .tup s.cut e (RVs.cutp q r)
  | _, _, q, .tupK e r => .tupK e (RVs.cutp q r)
  | _, _, q, .fls s e r => .fls s.cut e (RVs.cutp q r)
  | _, _, q, .frz s e r => .frz s.cut e (RVs.cutp q r)
  | _, _, q, .frzK e r => .frzK e (RVs.cutp q r)
  | _, _, _, .exc0 => .exc0
  | _, _, q, .excD s e r => .excD s.cut e (RVs.cutp q r)
theorem RVs.cutp {n : Nat} : ∀ {ms : List MV} {vs : List V}, cloL n ms = true → RVs K W ms vs → RVs K (W.cut n) ms vs
  | _, _, _, .nil => .nil
  | _, _, q, .cons r t => by
    have q' : (cloV n _ && cloL n _) = true := q
    rw [Bool.and_eq_true] at q'
    exact .cons (RV.cutp q'.1 r) (RVs.cutp q'.2 t)
end
mutual
theorem RV.clo : ∀ {m : MV} {v : V}, RV K W m v → cloV W.n m = true
  | _, _, .non => rfl
  | _, _, .bl b => rfl
  | _, _, .int i => rfl
  | _, _, .str s => rfl
  | _, _, .ref lt e => decide_eq_true lt
  | _, _, .tup s e r => RVs.clo r
  | _, _, .tupK e r => RVs.clo r
  | _, _, .fls s e r => RVs.clo r
  | _, _, .frz s e r => RVs.clo r
  | _, _, .frzK e r => RVs.clo r
  | _, _, .exc0 => rfl
  | _, _, .excD s e r => RVs.clo r
theorem RVs.clo : ∀ {ms : List MV} {vs : List V}, RVs K W ms vs → cloL W.n ms = true
  | _, _, .nil => rfl
  | _, _, .cons r t => by
    show (cloV W.n _ && cloL W.n _) = true
    rw [RV.clo r, RVs.clo t]
    rfl
end
theorem RKV.clo {κ : Type} : ∀ {ms : List (κ × MV)} {vs : List (κ × V)}, RKV K W ms vs → cloL W.n (ms.map (·.2)) = true
  | _, _, .nil => rfl
  | _, _, .cons r t => by
    show (cloV W.n _ && cloL W.n _) = true
    rw [r.clo, RKV.clo t]
    rfl
theorem RKV.cutp {κ : Type} {n : Nat} : ∀ {ms : List (κ × MV)} {vs : List (κ × V)}, cloL n (ms.map (·.2)) = true → RKV K W ms vs → RKV K (W.cut n) ms vs
  | _, _, _, .nil => .nil
  | _, _, q, .cons r t => by
    have q' : (cloV n _ && cloL n _) = true := q
    rw [Bool.and_eq_true] at q'
    exact .cons (RV.cutp q'.1 r) (RKV.cutp q'.2 t)
theorem RO.clo {o : MO} {a : Addr} (r : RO K W o a) : cloO W.n o = true := by
  cases o with
  | dead => exact r.elim
  | lst xs =>
    obtain ⟨vs, q, t⟩ := r
    exact t.clo
  | dK kvs =>
    obtain ⟨vs, q, t⟩ := r
    exact t.clo
  | ins cn kvs =>
    obtain ⟨C, dx, vs, hC, q, t⟩ := r
    exact t.clo
theorem RO.cut {n : Nat} {o : MO} {a : Addr} (c : cloO n o = true) (r : RO K W o a) : RO K (W.cut n) o a := by
  cases o with
  | dead => exact r.elim
  | lst xs =>
    obtain ⟨vs, q, t⟩ := r
    exact ⟨vs, q, t.cutp c⟩
  | dK kvs =>
    obtain ⟨vs, q, t⟩ := r
    exact ⟨vs, q, t.cutp c⟩
  | ins cn kvs =>
    obtain ⟨C, dx, vs, hC, q, t⟩ := r
    exact ⟨C, dx, vs, hC, q, t.cutp c⟩
theorem cut_clo {h h' : MH} (S0 : Sim K W0 h) (S : Sim K W h') (c : CutOk h h') {l : Nat} {o : MO} (hl : l < h.length) (e : h'[l]? = some o) : cloO h.length o = true := by
  rcases c.2 l hl with q | ⟨u, q, z⟩
  · rw [e] at q
    cases o with
    | dead => rfl
    | lst xs =>
      obtain ⟨a0, e0⟩ := S0.live l _ q.symm (by intro z; cases z)
      obtain ⟨u, e1, r⟩ := S0.obj l a0 e0
      rw [← q] at e1
      cases e1
      rw [← S0.n]
      exact r.clo
    | dK xs =>
      obtain ⟨a0, e0⟩ := S0.live l _ q.symm (by intro z; cases z)
      obtain ⟨u, e1, r⟩ := S0.obj l a0 e0
      rw [← q] at e1
      cases e1
      rw [← S0.n]
      exact r.clo
    | ins cn xs =>
      obtain ⟨a0, e0⟩ := S0.live l _ q.symm (by intro z; cases z)
      obtain ⟨u, e1, r⟩ := S0.obj l a0 e0
      rw [← q] at e1
      cases e1
      rw [← S0.n]
      exact r.clo
  · rw [e] at q
    cases q
    exact z
theorem Sim.cut {h h' : MH} (S0 : Sim K W0 h) (S : Sim K W h') (c : CutOk h h') : Sim K (W.cut h.length) (h'.take h.length) where
  n := by
    rw [List.length_take, Nat.min_eq_left c.1]
    rfl
  lt := fun l a e => by
    rw [List.length_take, Nat.min_eq_left c.1]
    exact (Wd.cut_some e).1
  inj := fun i j a ei ej => S.inj i j a (Wd.cut_some ei).2 (Wd.cut_some ej).2
  obj := fun l a e => by
    obtain ⟨hl, e1⟩ := Wd.cut_some e
    obtain ⟨o, e2, r⟩ := S.obj l a e1
    exact ⟨o, by rw [List.getElem?_take_of_lt hl]; exact e2, r.cut (cut_clo S0 S c hl e2)⟩
  live := fun l o e d => by
    have hl : l < h.length := by
      have := (List.getElem?_eq_some_iff.mp e).1
      rw [List.length_take] at this
      omega
    rw [List.getElem?_take_of_lt hl] at e
    obtain ⟨a, ea⟩ := S.live l o e d
    exact ⟨a, (if_pos hl).trans ea⟩
  nhid := fun l a e => S.nhid l a (Wd.cut_some e).2
  hids := S.hids
theorem Ext.cut {n : Nat} (x : Ext W0 W) (hn : W0.n = n) : Ext W0 (W.cut n) where
  le := by
    rw [hn]
    exact Nat.le_refl _
  agree := fun l hl => by
    rw [show (W.cut n).f l = W.f l from if_pos (hn ▸ hl)]
    exact x.agree l hl
  frame := fun p o s e => ⟨(x.frame p o s e).1, (x.frame p o s e).2.cut⟩
  hidf := fun p o s e => x.hidf p o s e
theorem cut_pst {c : XC} {Q : VK} {f : MF} {xs : List MV} {h : MH} (S0 : Sim K W0 h) (p : Pst K c (CV K Q) W0 (cutF f xs h)) : Pst K c (CV K Q) W0 (f xs h) := by
  unfold cutF at p
  cases hf : f xs h with
  | none =>
    rw [hf] at p
    exact p.elim
  | some r =>
    rw [hf] at p
    cases r with
    | ex e h' => exact p
    | ok v h' =>
      dsimp only at p
      by_cases q : cloV h.length v = true ∧ CutOk h h'
      · rw [if_pos q] at p
        exact fun W1 x1 S1 u r1 => p (W1.cut h.length) (x1.cut S0.n) (S0.cut S1 q.2) u (r1.cutp q.1)
      · rw [if_neg q] at p
        exact p
theorem cut_sp {mg : Str → Option Value} {np : Nat} {f : MF} : ∀ vs H Q E, spM K mg np (cutF f) vs H Q E → spM K mg np f vs H Q E := fun vs H Q E ⟨W, h, xs, e, S, r, hl, p⟩ => ⟨W, h, xs, e, S, r, hl, cut_pst S p⟩
theorem cut_len {np : Nat} {f : MF} (hf : ∀ (xs : List MV) (h : MH), (f xs h).isSome = true → xs.length = np) : ∀ (xs : List MV) (h : MH), (cutF f xs h).isSome = true → xs.length = np := fun xs h e => by
  refine hf xs h ?_
  unfold cutF at e
  cases q : f xs h with
  | none =>
    rw [q] at e
    cases e
  | some r => rfl
theorem RS.clr1 : ∀ {a : MS} {b : St} (i : Nat), RS K W a b → RS K W (a.set i none) b
  | _, _, _, .nil => .nil
  | _, _, 0, .no t => .no t
  | _, _, 0, .yes _ t => .no t
  | _, _, i + 1, .no t => .no (RS.clr1 i t)
  | _, _, i + 1, .yes q t => .yes q (RS.clr1 i t)
theorem RS.wip {a : MS} {b : St} (t : RS K W a b) : ∀ vs : List Nat, RS K W (wipeM a vs) b
  | [] => t
  | v :: vs => (RS.wip t vs).clr1 v
theorem RS.cut {n : Nat} : ∀ {a : MS} {b : St}, cloS n a = true → RS K W a b → RS K (W.cut n) a b
  | _, _, _, .nil => .nil
  | _, _, q, .no t => .no (RS.cut q t)
  | _, _, q, .yes r t => by
    have q' : (cloV n _ && cloS n _) = true := q
    rw [Bool.and_eq_true] at q'
    exact .yes (r.cutp q'.1) (RS.cut q'.2 t)
end
@[simp] theorem wipe_nil {s : MS} : wipeM s [] = s := rfl
@[simp] theorem wipe_cons {s : MS} {v : Nat} {vs : List Nat} : wipeM s (v :: vs) = (wipeM s vs).set v none := rfl
/-- slots wiped ahead of a statement, behind a body -/
@[simp ↓] def preW (vs : List Nat) (m : MT) : MT := fun s h => m (wipeM s vs) h
@[simp ↓] def wipT (vs : List Nat) (m : MT) : MT := fun s h => match m s h with
  | some (.nx s1 h1) => some (.nx (wipeM s1 vs) h1)
  | some (.brk s1 h1) => some (.brk (wipeM s1 vs) h1)
  | some (.cnt s1 h1) => some (.cnt (wipeM s1 vs) h1)
  | r => r
open Classical in
noncomputable def cutT (m : MT) : MT := fun s h => match m s h with
  | some (.nx s1 h1) => if cloS h.length s1 = true ∧ CutOk h h1 then some (.nx s1 (h1.take h.length)) else some (.nx s1 h1)
  | some (.brk s1 h1) => if cloS h.length s1 = true ∧ CutOk h h1 then some (.brk s1 (h1.take h.length)) else some (.brk s1 h1)
  | some (.cnt s1 h1) => if cloS h.length s1 = true ∧ CutOk h h1 then some (.cnt s1 (h1.take h.length)) else some (.cnt s1 h1)
  | r => r
section
variable {X : Cx} {c : XC} {st : Stmt} {sts : List Stmt} {m : MT}
theorem s_pre {vs : List Nat} (h : SM X c st m) : SM X c st (preW vs m) := ps_wk h fun D σ H ⟨W, h, s, e, S, rs, p⟩ => ⟨W, h, wipeM s vs, e, S, rs.wip vs, p⟩
theorem ss_wip {vs : List Nat} (h : SsM X c sts m) : SsM X c sts (wipT vs m) := pss_wk h fun D σ H ⟨W, h, s, e, S, rs, p⟩ => by
  refine ⟨W, h, s, e, S, rs, ?_⟩
  unfold wipT at p
  cases q : m s h with
  | none =>
    rw [q] at p
    exact p.elim
  | some r =>
    rw [q] at p
    cases r with
    | nx s1 h1 => exact fun W1 σ1 x1 S1 rs1 => p W1 σ1 x1 S1 (rs1.wip vs)
    | brk s1 h1 => exact fun W1 σ1 x1 S1 rs1 => p W1 σ1 x1 S1 (rs1.wip vs)
    | cnt s1 h1 => exact fun W1 σ1 x1 S1 rs1 => p W1 σ1 x1 S1 (rs1.wip vs)
    | ret x h1 => exact p
    | ex x h1 => exact p
theorem ss_cut (h : SsM X c sts m) : SsM X c sts (cutT m) := pss_wk h fun D σ H ⟨W, h, s, e, S, rs, p⟩ => by
  refine ⟨W, h, s, e, S, rs, ?_⟩
  unfold cutT at p
  cases q : m s h with
  | none =>
    rw [q] at p
    exact p.elim
  | some r =>
    rw [q] at p
    cases r with
    | nx s1 h1 =>
      dsimp only at p
      by_cases z : cloS h.length s1 = true ∧ CutOk h h1
      · rw [if_pos z] at p
        exact fun W1 σ1 x1 S1 rs1 => p (W1.cut h.length) σ1 (x1.cut S.n) (S.cut S1 z.2) (rs1.cut z.1)
      · rw [if_neg z] at p
        exact p
    | brk s1 h1 =>
      dsimp only at p
      by_cases z : cloS h.length s1 = true ∧ CutOk h h1
      · rw [if_pos z] at p
        exact fun W1 σ1 x1 S1 rs1 => p (W1.cut h.length) σ1 (x1.cut S.n) (S.cut S1 z.2) (rs1.cut z.1)
      · rw [if_neg z] at p
        exact p
    | cnt s1 h1 =>
      dsimp only at p
      by_cases z : cloS h.length s1 = true ∧ CutOk h h1
      · rw [if_pos z] at p
        exact fun W1 σ1 x1 S1 rs1 => p (W1.cut h.length) σ1 (x1.cut S.n) (S.cut S1 z.2) (rs1.cut z.1)
      · rw [if_neg z] at p
        exact p
    | ret x h1 => exact p
    | ex x h1 => exact p
end
end Mi
set_option maxHeartbeats 2000000
/-! Mi: how to reckon when places are forgotten and slots wiped. -/
namespace Mi
open PySem L2
abbrev nV (k : Nat) : MV := .int (k : Int)
abbrev prV (p : Nat × Nat) : MV := .tup [nV p.1, nV p.2]
theorem atI_n {α : Type} {xs : List α} {i : Nat} : atI xs (i : Int) = xs[i]? := by
  unfold atI
  by_cases h : i < xs.length
  · rw [ixN_nat h]
    rfl
  · have e : ixN xs.length (i : Int) = none := by
      unfold ixN
      rw [if_pos (by omega), if_neg (by omega)]
    rw [e, List.getElem?_eq_none (by omega)]
    rfl
theorem atI_0 {α : Type} {xs : List α} : atI xs 0 = xs[0]? := atI_n (i := 0)
theorem atI_1 {α : Type} {xs : List α} : atI xs 1 = xs[1]? := atI_n (i := 1)
theorem atI_2 {α : Type} {xs : List α} : atI xs 2 = xs[2]? := atI_n (i := 2)
theorem atI_3 {α : Type} {xs : List α} : atI xs 3 = xs[3]? := atI_n (i := 3)
theorem atI_4 {α : Type} {xs : List α} : atI xs 4 = xs[4]? := atI_n (i := 4)
theorem atI_5 {α : Type} {xs : List α} : atI xs 5 = xs[5]? := atI_n (i := 5)
theorem atI_6 {α : Type} {xs : List α} : atI xs 6 = xs[6]? := atI_n (i := 6)
theorem atI_7 {α : Type} {xs : List α} : atI xs 7 = xs[7]? := atI_n (i := 7)
theorem atI_m1 {α : Type} {xs : List α} : atI xs (-1) = xs[xs.length - 1]? := by
  unfold atI ixN
  cases xs with
  | nil => rfl
  | cons x xs =>
    have h : -((x :: xs).length : Int) ≤ -1 := by
      rw [List.length_cons]
      omega
    rw [if_neg (by omega), if_pos h]
    show (x :: xs)[((-1 : Int) + ((x :: xs).length : Int)).toNat]? = _
    congr 1
    omega
theorem ixN_n {n j : Nat} : ixN n (j : Int) = if j < n then some j else none := by
  by_cases h : j < n
  · rw [ixN_nat h, if_pos h]
  · unfold ixN
    rw [if_pos (by omega), if_neg (by omega), if_neg h]
theorem ixN_0 {n : Nat} : ixN n 0 = if 0 < n then some 0 else none := ixN_n (j := 0)
theorem ixN_1 {n : Nat} : ixN n 1 = if 1 < n then some 1 else none := ixN_n (j := 1)
theorem ixN_2 {n : Nat} : ixN n 2 = if 2 < n then some 2 else none := ixN_n (j := 2)
theorem ixN_3 {n : Nat} : ixN n 3 = if 3 < n then some 3 else none := ixN_n (j := 3)
theorem ixN_4 {n : Nat} : ixN n 4 = if 4 < n then some 4 else none := ixN_n (j := 4)
theorem ixN_5 {n : Nat} : ixN n 5 = if 5 < n then some 5 else none := ixN_n (j := 5)
/-! places in heaps put together -/
theorem ga {α : Type} {a t : List α} {n i : Nat} (h : a.length = n) : (a ++ t)[n + i]? = t[i]? := by
  subst h
  rw [List.getElem?_append_right (by omega)]
  congr 1
  omega
theorem ga0 {α : Type} {a t : List α} {n : Nat} (h : a.length = n) : (a ++ t)[n]? = t[0]? := ga (i := 0) h
theorem sa {α : Type} {a t : List α} {n i : Nat} {x : α} (h : a.length = n) : (a ++ t).set (n + i) x = a ++ t.set i x := by
  subst h
  rw [List.set_append_right _ _ (by omega)]
  congr 2
  omega
theorem sa0 {α : Type} {a t : List α} {n : Nat} {x : α} (h : a.length = n) : (a ++ t).set n x = a ++ t.set 0 x := sa (i := 0) h
theorem gl {α : Type} {a t : List α} {i : Nat} (h : i < a.length) : (a ++ t)[i]? = a[i]? := List.getElem?_append_left h
theorem sl {α : Type} {a t : List α} {i : Nat} {x : α} (h : i < a.length) : (a ++ t).set i x = a.set i x ++ t := List.set_append_left _ _ h
/-! loops -/
theorem for_m {α β : Type} {bd : MV → MT} {f : β → MV} (S : α → MS) (H : α → MH) (I : Nat → α → Prop) {xs : List β} {a0 : α} (h0 : I 0 a0)
    (hs : ∀ i x a, xs[i]? = some x → I i a → ∃ a', (bd (f x) (S a) (H a) = some (.nx (S a') (H a')) ∨ bd (f x) (S a) (H a) = some (.cnt (S a') (H a'))) ∧ I (i + 1) a') :
    ∃ a, forS bd (xs.map f) (S a0) (H a0) = some (.nx (S a) (H a)) ∧ I xs.length a := by
  obtain ⟨s', h', e, a, e1, e2, q⟩ := forS_ok (bd := bd) (fun i s h => ∃ a, s = S a ∧ h = H a ∧ I i a) (xs := xs.map f) (i0 := 0) (s := S a0) (h := H a0) (fun i x s h hx ⟨a, e1, e2, q⟩ => by
    subst e1
    subst e2
    rw [List.getElem?_map] at hx
    cases hy : xs[i]? with
    | none =>
      rw [hy] at hx
      cases hx
    | some y =>
      rw [hy] at hx
      cases hx
      rw [Nat.zero_add] at q ⊢
      obtain ⟨a', e, q'⟩ := hs i y a hy q
      exact ⟨_, _, e, a', rfl, rfl, q'⟩) ⟨a0, rfl, rfl, h0⟩
  subst e1
  subst e2
  rw [Nat.zero_add, List.length_map] at q
  exact ⟨a, e, q⟩
/-- .. or returns -/
theorem for_mr {α β : Type} {bd : MV → MT} {f : β → MV} (S : α → MS) (H : α → MH) (I : Nat → α → Prop) (R : MV → α → Prop) : ∀ {xs : List β} {i0 : Nat} {a0 : α}, I i0 a0 →
    (∀ i x a, xs[i]? = some x → I (i0 + i) a → (∃ a', (bd (f x) (S a) (H a) = some (.nx (S a') (H a')) ∨ bd (f x) (S a) (H a) = some (.cnt (S a') (H a'))) ∧ I (i0 + i + 1) a') ∨ ∃ v a', bd (f x) (S a) (H a) = some (.ret v (H a')) ∧ R v a') →
    (∃ a, forS bd (xs.map f) (S a0) (H a0) = some (.nx (S a) (H a)) ∧ I (i0 + xs.length) a) ∨ ∃ v a, forS bd (xs.map f) (S a0) (H a0) = some (.ret v (H a)) ∧ R v a
  | [], i0, a0, h0, _ => .inl ⟨a0, rfl, h0⟩
  | x :: xs, i0, a0, h0, hs => by
    rcases hs 0 x a0 rfl h0 with ⟨a1, e, q⟩ | ⟨v, a1, e, q⟩
    · have ih := for_mr S H I R (bd := bd) (f := f) (xs := xs) (i0 := i0 + 1) (a0 := a1) q fun i y a hy hj => by
        have := hs (i + 1) y a (by simpa using hy) (by rw [← Nat.add_assoc, Nat.add_right_comm]; exact hj)
        rw [show i0 + 1 + i = i0 + (i + 1) by omega]
        exact this
      rw [List.map_cons, List.length_cons, show i0 + (xs.length + 1) = i0 + 1 + xs.length by omega]
      unfold forS
      rcases e with e | e <;> rw [e] <;> exact ih
    · refine .inr ⟨v, a1, ?_, q⟩
      rw [List.map_cons]
      unfold forS
      rw [e]
theorem for_n {α : Type} {bd : MV → MT} (S : α → MS) (H : α → MH) (I : Nat → α → Prop) {n : Nat} {a0 : α} (h0 : I 0 a0)
    (hs : ∀ i a, i < n → I i a → ∃ a', (bd (nV i) (S a) (H a) = some (.nx (S a') (H a')) ∨ bd (nV i) (S a) (H a) = some (.cnt (S a') (H a'))) ∧ I (i + 1) a') :
    ∃ a, forS bd (runOf 0 n) (S a0) (H a0) = some (.nx (S a) (H a)) ∧ I n a := by
  have := for_m (bd := bd) (f := nV) S H I (xs := List.range n) (a0 := a0) h0 fun i x a hx q => by
    obtain ⟨hi, e⟩ := List.getElem?_eq_some_iff.mp hx
    rw [List.getElem_range] at e
    subst e
    exact hs i a (by simpa using hi) q
  rw [List.length_range] at this
  rw [run_nat]
  exact this
/-- a loop that ends at the first item of a kind, and changes nothing else -/
theorem for_find {β : Type} {bd : MV → MT} {f : β → MV} {s : MS} {h : MH} (c : β → Bool) (r : β → MV) : ∀ {xs : List β}, (∀ x ∈ xs, bd (f x) s h = if c x = true then some (.ret (r x) h) else some (.nx s h)) →
    forS bd (xs.map f) s h = match xs.find? c with
      | some x => some (.ret (r x) h)
      | none => some (.nx s h)
  | [], _ => rfl
  | x :: xs, hs => by
    rw [List.map_cons]
    unfold forS
    rw [hs x (List.mem_cons_self ..), List.find?_cons]
    cases hc : c x with
    | true => rfl
    | false =>
      rw [if_neg Bool.false_ne_true]
      exact for_find c r fun y hy => hs y (List.mem_cons_of_mem _ hy)
/-- all must do -/
theorem for_all {β : Type} {bd : MV → MT} {f : β → MV} {s : MS} {h : MH} (c : β → Bool) (r : MV) {xs : List β} (hs : ∀ x ∈ xs, bd (f x) s h = if c x = true then some (.nx s h) else some (.ret r h)) :
    forS bd (xs.map f) s h = if xs.all c = true then some (.nx s h) else some (.ret r h) := by
  rw [for_find (fun x => !c x) (fun _ => r) (xs := xs) fun x hx => by
    rw [hs x hx]
    cases c x <;> rfl]
  cases hf : xs.find? fun x => !c x with
  | none =>
    have : xs.all c = true := List.all_eq_true.mpr fun x hx => by
      have := List.find?_eq_none.mp hf x hx
      simpa using this
    rw [this]
    rfl
  | some y =>
    have : xs.all c = false := List.all_eq_false.mpr ⟨y, List.mem_of_find?_eq_some hf, by
      have := List.find?_some hf
      simpa using this⟩
    rw [this]
    rfl
/-- each turn does a step -/
theorem for_fold {α β : Type} {bd : MV → MT} {f : β → MV} (S : α → MS) (H : α → MH) (st : α → β → α) (J : Nat → α → Prop) : ∀ {xs : List β} {i0 : Nat} {a0 : α}, J i0 a0 →
    (∀ i x a, xs[i]? = some x → J (i0 + i) a → bd (f x) (S a) (H a) = some (.nx (S (st a x)) (H (st a x))) ∧ J (i0 + i + 1) (st a x)) →
    forS bd (xs.map f) (S a0) (H a0) = some (.nx (S (xs.foldl st a0)) (H (xs.foldl st a0))) ∧ J (i0 + xs.length) (xs.foldl st a0)
  | [], i0, a0, h0, _ => ⟨rfl, h0⟩
  | x :: xs, i0, a0, h0, hs => by
    obtain ⟨e, q⟩ := hs 0 x a0 rfl h0
    have ih := for_fold S H st J (bd := bd) (f := f) (xs := xs) (i0 := i0 + 1) (a0 := st a0 x) q fun i y a hy hj => by
      have := hs (i + 1) y a (by simpa using hy) (by rw [← Nat.add_assoc, Nat.add_right_comm]; exact hj)
      rw [show i0 + 1 + i = i0 + (i + 1) by omega]
      exact this
    rw [List.map_cons, List.foldl_cons, List.length_cons, show i0 + (xs.length + 1) = i0 + 1 + xs.length by omega]
    refine ⟨?_, ih.2⟩
    unfold forS
    rw [e]
    exact ih.1
theorem run_m {n : Nat} : runOf 0 n = (List.range n).map nV := run_nat
theorem rng1_n {n : Nat} {h : MH} (q : n ≤ 1000000) : rng1F [nV n] h = ok (.st ((List.range n).map nV)) h := by
  unfold rng1F
  dsimp only
  rw [if_pos (by omega), Int.toNat_natCast, run_m]
/-! comprehensions -/
theorem lc_p {β : Type} {i : Nat} {f : β → MV} {cd : MM Bool} {el : ME} {s0 : MS} {h : MH} (c : β → Bool) (e : β → MV) {xs : List β} (hl : xs.length ≤ lim) (hs : ∀ x ∈ xs, cd (s0.set i (some (f x))) h = ok (c x) h ∧ (c x = true → el (s0.set i (some (f x))) h = ok (e x) h)) :
    lcS (one i) cd el s0 (xs.map f) [] h = ok ((xs.filter c).map e) h := by
  have : ∀ (xs : List β) (acc : List MV), (∀ x ∈ xs, cd (s0.set i (some (f x))) h = ok (c x) h ∧ (c x = true → el (s0.set i (some (f x))) h = ok (e x) h)) → acc.length + xs.length ≤ lim → lcS (one i) cd el s0 (xs.map f) acc h = ok (acc ++ (xs.filter c).map e) h := by
    intro xs
    induction xs with
    | nil =>
      intro acc _ _
      show _ = ok (acc ++ []) h
      rw [List.append_nil]
      rfl
    | cons x xs ih =>
      intro acc hs hl
      obtain ⟨e1, e2⟩ := hs x (List.mem_cons_self ..)
      rw [List.length_cons] at hl
      rw [List.map_cons]
      unfold lcS
      show (cd (s0.set i (some (f x))) h).bnd _ = _
      rw [e1, bnd_ok]
      cases hc : c x with
      | false =>
        rw [if_neg Bool.false_ne_true, ih acc (fun y hy => hs y (List.mem_cons_of_mem _ hy)) (by omega), List.filter_cons_of_neg (by rw [hc]; exact Bool.false_ne_true)]
      | true =>
        rw [if_pos rfl, e2 hc, bnd_ok, if_pos (by omega), ih (acc ++ [e x]) (fun y hy => hs y (List.mem_cons_of_mem _ hy)) (by rw [List.length_append]; show acc.length + 1 + xs.length ≤ lim; omega), List.filter_cons_of_pos hc, List.map_cons, List.append_assoc]
        rfl
  have t := this xs [] hs (by simpa using hl)
  rw [List.nil_append] at t
  exact t
theorem lc_y {β : Type} {i : Nat} {f : β → MV} {el : ME} {s0 : MS} {h : MH} (e : β → MV) {xs : List β} (hl : xs.length ≤ lim) (hs : ∀ x ∈ xs, el (s0.set i (some (f x))) h = ok (e x) h) :
    lcS (one i) yesT el s0 (xs.map f) [] h = ok (xs.map e) h := by
  have := lc_p (i := i) (f := f) (cd := yesT) (el := el) (s0 := s0) (h := h) (fun _ => true) e hl fun x hx => ⟨rfl, fun _ => hs x hx⟩
  rw [List.filter_eq_self.mpr fun _ _ => rfl] at this
  exact this
/-- one whose parts change the heap -/
theorem lc_m {α β : Type} {f : β → MV} {g : MV → MS → Option MS} {cd : MM Bool} {el : ME} {s0 : MS} (H : α → MH) (I : Nat → List MV → α → Prop) {xs : List β} {a0 : α} (h0 : I 0 [] a0) (hs : ∀ i x acc a, xs[i]? = some x → I i acc a → ∃ s1, g (f x) s0 = some s1 ∧ ∃ b a1, cd s1 (H a) = ok b (H a1) ∧
      (b = true → ∃ y a2, el s1 (H a1) = ok y (H a2) ∧ acc.length < lim ∧ I (i + 1) (acc ++ [y]) a2) ∧ (b = false → I (i + 1) acc a1)) : ∃ acc a, lcS g cd el s0 (xs.map f) [] (H a0) = ok acc (H a) ∧ I xs.length acc a := by
  obtain ⟨acc, h', e, a, e1, q⟩ := lcS_ok (g := g) (cd := cd) (el := el) (s0 := s0) (fun i acc h => ∃ a, h = H a ∧ I i acc a) (xs := xs.map f) (i0 := 0) (acc := []) (h := H a0) (fun i x acc h hx ⟨a, e1, q⟩ => by
    subst e1
    rw [List.getElem?_map] at hx
    cases hy : xs[i]? with
    | none =>
      rw [hy] at hx
      cases hx
    | some y =>
      rw [hy] at hx
      cases hx
      rw [Nat.zero_add] at q ⊢
      obtain ⟨s1, z, b, a1, z1, z2, z3⟩ := hs i y acc a hy q
      refine ⟨s1, z, b, H a1, z1, fun w => ?_, fun w => ⟨a1, rfl, z3 w⟩⟩
      obtain ⟨y, a2, w1, w2, w3⟩ := z2 w
      exact ⟨y, H a2, w1, w2, a2, rfl, w3⟩) ⟨a0, rfl, h0⟩
  subst e1
  rw [Nat.zero_add, List.length_map] at q
  exact ⟨acc, a, e, q⟩
/-! places forgotten -/
mutual
theorem cloV_le {n m : Nat} (h : n ≤ m) : ∀ {x : MV}, cloV n x = true → cloV m x = true
  | .non, _ => rfl
  | .bl _, _ => rfl
  | .int _, _ => rfl
  | .str _, _ => rfl
  | .ref l, e => decide_eq_true (Nat.lt_of_lt_of_le (of_decide_eq_true e) h)
  | .tup xs, e => cloL_le h (xs := xs) e
  | .ktp xs, e => cloL_le h (xs := xs) e
  | .fls xs, e => cloL_le h (xs := xs) e
  | .frz xs, e => cloL_le h (xs := xs) e
  | .exc _ _ _ xs, e => cloL_le h (xs := xs) e
theorem cloL_le {n m : Nat} (h : n ≤ m) : ∀ {xs : List MV}, cloL n xs = true → cloL m xs = true
  | [], _ => rfl
  | x :: xs, e => by
    have e' : (cloV n x && cloL n xs) = true := e
    rw [Bool.and_eq_true] at e'
    show (cloV m x && cloL m xs) = true
    rw [cloV_le h e'.1, cloL_le h e'.2]
    rfl
end
theorem cloO_le {n m : Nat} (h : n ≤ m) : ∀ {o : MO}, cloO n o = true → cloO m o = true
  | .dead, _ => rfl
  | .lst xs, e => cloL_le h (xs := xs) e
  | .dK kvs, e => by
    have e' : cloL n (kvs.map (·.2)) = true := e
    exact cloL_le h e'
  | .ins _ kvs, e => by
    have e' : cloL n (kvs.map (·.2)) = true := e
    exact cloL_le h e'
theorem cloL_iff {n : Nat} : ∀ {xs : List MV}, cloL n xs = true ↔ ∀ x ∈ xs, cloV n x = true
  | [] => ⟨fun _ _ h => (nomatch h), fun _ => rfl⟩
  | x :: xs => by
    show (cloV n x && cloL n xs) = true ↔ _
    rw [Bool.and_eq_true, cloL_iff (xs := xs)]
    simp
theorem cloL_map {β : Type} {n : Nat} {f : β → MV} {xs : List β} (h : ∀ x, cloV n (f x) = true) : cloL n (xs.map f) = true := cloL_iff.mpr fun y hy => by
  obtain ⟨x, _, e⟩ := List.mem_map.mp hy
  rw [← e]
  exact h x
@[simp] theorem clo_int {n : Nat} {i : Int} : cloV n (.int i) = true := rfl
@[simp] theorem clo_bl {n : Nat} {i : Bool} : cloV n (.bl i) = true := rfl
@[simp] theorem clo_str {n : Nat} {i : Str} : cloV n (.str i) = true := rfl
@[simp] theorem clo_non {n : Nat} : cloV n .non = true := rfl
@[simp] theorem clo_tup {n : Nat} {xs : List MV} : cloV n (.tup xs) = cloL n xs := rfl
@[simp] theorem clo_fls {n : Nat} {xs : List MV} : cloV n (.fls xs) = cloL n xs := rfl
@[simp] theorem clo_frz {n : Nat} {xs : List MV} : cloV n (.frz xs) = cloL n xs := rfl
@[simp] theorem clo_nil {n : Nat} : cloL n [] = true := rfl
@[simp] theorem clo_cons {n : Nat} {x : MV} {xs : List MV} : cloL n (x :: xs) = (cloV n x && cloL n xs) := rfl
@[simp] theorem clo_ints {n : Nat} {xs : List Int} : cloL n (xs.map MV.int) = true := cloL_map fun _ => rfl
@[simp] theorem clo_ns {n : Nat} {xs : List Nat} : cloL n (xs.map nV) = true := cloL_map fun _ => rfl
@[simp] theorem clo_prs {n : Nat} {xs : List (Nat × Nat)} : cloL n (xs.map prV) = true := cloL_map fun _ => rfl
@[simp] theorem clo_tb {n k : Nat} {f : Nat → Bool} : cloL n (tb k fun y => MV.bl (f y)) = true := cloL_map fun _ => rfl
@[simp] theorem clo_mat {n a b : Nat} {f : Nat → Nat → Bool} : cloV n (matV a b f) = true := cloL_map fun x => cloL_map fun _ => rfl
theorem cut_eq {f : MF} {xs : List MV} {v : MV} {h h' h2 : MH} (e : f xs h = ok v h') (hv : cloV 0 v = true) (hk : CutOk h h') (ht : h'.take h.length = h2) : cutF f xs h = ok v h2 := by
  unfold cutF
  rw [e]
  dsimp only
  rw [if_pos ⟨cloV_le (Nat.zero_le _) hv, hk⟩, ht]
theorem cut_keep {f : MF} {xs : List MV} {v : MV} {h h' : MH} (e : f xs h = ok v h') (k : Keep (fun _ => False) h h') (hv : cloV 0 v = true) : cutF f xs h = ok v h := by
  refine cut_eq e hv ⟨k.le, fun i hi => .inl (k.at_ i hi fun z => z)⟩ ?_
  refine List.ext_getElem? fun i => ?_
  by_cases hi : i < h.length
  · rw [List.getElem?_take_of_lt hi, k.at_ i hi fun z => z]
  · rw [List.getElem?_eq_none (by rw [List.length_take]; omega), List.getElem?_eq_none (by omega)]
theorem cut_p {f : MF} {xs : List MV} {v : MV} {h os : MH} (e : f xs h = ok v (h ++ os)) (hv : cloV 0 v = true) : cutF f xs h = ok v h := cut_keep e (keeps os) hv
/-- the places of a source refer to themselves alone -/
def Self (S : MH) : Prop := ∀ o ∈ S, cloO S.length o = true
theorem seq_nx {a b : MT} {s s1 : MS} {h h1 : MH} (e : a s h = some (.nx s1 h1)) : seqS a b s h = b s1 h1 := by
  unfold seqS
  rw [e]
theorem defM_ret {np n : Nat} {m : MT} {xs : List MV} {h h1 : MH} {x : MV} (hl : xs.length = np) (e : m (xs.map some ++ List.replicate (n - np) none) h = some (.ret x h1)) : defM np n m xs h = ok x h1 := by
  unfold defM
  rw [if_pos hl, e]
theorem seq_ret {a b : MT} {s : MS} {h h1 : MH} {x : MV} (e : a s h = some (.ret x h1)) : seqS a b s h = some (.ret x h1) := by
  unfold seqS
  rw [e]
theorem seq_ex {a b : MT} {s : MS} {h h1 : MH} {x : MX} (e : a s h = some (.ex x h1)) : seqS a b s h = some (.ex x h1) := by
  unfold seqS
  rw [e]
theorem defM_ex {np n : Nat} {m : MT} {xs : List MV} {h h1 : MH} {x : MX} (hl : xs.length = np) (e : m (xs.map some ++ List.replicate (n - np) none) h = some (.ex x h1)) : defM np n m xs h = some (.ex x h1) := by
  unfold defM
  rw [if_pos hl, e]
theorem forS_nx {bd : MV → MT} {x : MV} {xs : List MV} {s s1 : MS} {h h1 : MH} (e : bd x s h = some (.nx s1 h1)) : forS bd (x :: xs) s h = forS bd xs s1 h1 := by
  rw [forS, e]
theorem forS_ex {bd : MV → MT} {x : MV} {xs : List MV} {s : MS} {h h1 : MH} {y : MX} (e : bd x s h = some (.ex y h1)) : forS bd (x :: xs) s h = some (.ex y h1) := by
  rw [forS, e]
theorem forS_ret {bd : MV → MT} {x : MV} {xs : List MV} {s : MS} {h h1 : MH} {y : MV} (e : bd x s h = some (.ret y h1)) : forS bd (x :: xs) s h = some (.ret y h1) := by
  rw [forS, e]
theorem bnd_ex {α β : Type} {e : MX} {h : MH} {k : α → MH → Res β} : Res.bnd (some (.ex e h)) k = some (.ex e h) := rfl
theorem bndS_ex {α : Type} {e : MX} {h : MH} {k : α → MH → Option OutS} : bndS (some (.ex e h)) k = some (.ex e h) := rfl
theorem consA_ok {a : ME} {r : MM (List MV)} {s : MS} {h h1 h2 : MH} {x : MV} {xs : List MV} (e1 : a s h = ok x h1) (e2 : r s h1 = ok xs h2) : consA a r s h = ok (x :: xs) h2 := by
  unfold consA
  rw [e1, bnd_ok, e2, bnd_ok]
theorem consA_ex {a : ME} {r : MM (List MV)} {s : MS} {h h1 : MH} {x : MX} (e1 : a s h = some (.ex x h1)) : consA a r s h = some (.ex x h1) := by
  unfold consA
  rw [e1, bnd_ex]
theorem consA_ex2 {a : ME} {r : MM (List MV)} {s : MS} {h h1 h2 : MH} {y : MV} {x : MX} (e1 : a s h = ok y h1) (e2 : r s h1 = some (.ex x h2)) : consA a r s h = some (.ex x h2) := by
  unfold consA
  rw [e1, bnd_ok, e2, bnd_ex]
theorem tupM_ok {r : MM (List MV)} {s : MS} {h h1 : MH} {xs : List MV} (e : r s h = ok xs h1) (hl : xs.length ≤ 1000) : tupM r s h = ok (.tup xs) h1 := by
  unfold tupM
  rw [e, bnd_ok, if_pos (Nat.le_trans hl (by unfold lim; omega))]
theorem tupM_ex {r : MM (List MV)} {s : MS} {h h1 : MH} {x : MX} (e : r s h = some (.ex x h1)) : tupM r s h = some (.ex x h1) := by
  unfold tupM
  rw [e, bnd_ex]
theorem retS_ok {a : ME} {s : MS} {h h1 : MH} {x : MV} (e : a s h = ok x h1) : retS a s h = some (.ret x h1) := by
  unfold retS
  rw [e, bndS_ok]
theorem retS_ex {a : ME} {s : MS} {h h1 : MH} {x : MX} (e : a s h = some (.ex x h1)) : retS a s h = some (.ex x h1) := by
  unfold retS
  rw [e, bndS_ex]
theorem setS_ok {i : Nat} {a : ME} {s : MS} {h h1 : MH} {x : MV} (e : a s h = ok x h1) : setS i a s h = some (.nx (s.set i (some x)) h1) := by
  unfold setS
  rw [e, bndS_ok]
theorem ifS_t {t : MM Bool} {a b : MT} {s : MS} {h h1 : MH} (e : t s h = ok true h1) : ifS t a b s h = a s h1 := by
  unfold ifS
  rw [e, bndS_ok, if_pos rfl]
theorem ifS_f {t : MM Bool} {a b : MT} {s : MS} {h h1 : MH} (e : t s h = ok false h1) : ifS t a b s h = b s h1 := by
  unfold ifS
  rw [e, bndS_ok, if_neg Bool.false_ne_true]
theorem callX_is {f : MF} {ds : List MV} {a : MM (List MV)} {s : MS} {h h1 : MH} {xs : List MV} (e : a s h = ok xs h1) : callX f ds a s h = f (xs ++ ds) h1 := by
  unfold callX
  rw [e, bnd_ok]
theorem callKX_is {f : MF} {n k : Nat} {is : List Nat} {ds : List MV} {a kw : MM (List MV)} {s : MS} {h h1 h2 : MH} {xs zs : List MV} (e : a s h = ok xs h1) (e2 : kw s h1 = ok zs h2) (hl : xs.length = n ∧ zs.length = k) : callKX f n k is ds a kw s h = f (pick is (xs ++ zs ++ ds)) h2 := by
  unfold callKX
  rw [e, bnd_ok, e2, bnd_ok, if_pos hl]
theorem callKX_0 {f : MF} {k : Nat} {is : List Nat} {ds : List MV} {kw : MM (List MV)} {s : MS} {h h2 : MH} {zs : List MV} (e2 : kw s h = ok zs h2) (hl : zs.length = k) : callKX f 0 k is ds nilA kw s h = f (pick is ([] ++ zs ++ ds)) h2 := callKX_is rfl e2 ⟨rfl, hl⟩
theorem callKM_0 {f : MF} {k : Nat} {is : List Nat} {ds : List MV} {kw : MM (List MV)} {s : MS} {h h2 : MH} {zs : List MV} (e2 : kw s h = ok zs h2) (hl : zs.length = k) : callKM f 0 k is ds nilA kw s h = noex (f (pick is ([] ++ zs ++ ds)) h2) := by
  unfold callKM nilA
  rw [bnd_ok, e2, bnd_ok, if_pos ⟨rfl, hl⟩]
theorem callM_ok {f : MF} {ds : List MV} {a : MM (List MV)} {s : MS} {h h1 h2 : MH} {xs : List MV} {y : MV} (e : a s h = ok xs h1) (e2 : f (xs ++ ds) h1 = ok y h2) : callM f ds a s h = ok y h2 := by
  unfold callM
  rw [e, bnd_ok, e2]
  rfl
theorem notcall_t {f : MF} {ds : List MV} {a : MM (List MV)} {s : MS} {h h1 h2 : MH} {xs : List MV} {b : Bool} (e : a s h = ok xs h1) (e2 : f (xs ++ ds) h1 = ok (.bl b) h2) : notT (truM (callM f ds a)) s h = ok (!b) h2 := by
  unfold notT truM
  rw [callM_ok e e2]
  rfl
theorem cutOk_s {S S' os ks : MH} (hl : S'.length = S.length) (hc : Self S') : CutOk (S ++ os) (S' ++ (os ++ ks)) := by
  refine ⟨by simp [hl], fun i hi => ?_⟩
  by_cases h : i < S.length
  · obtain ⟨o, ho⟩ : ∃ o, S'[i]? = some o := ⟨_, List.getElem?_eq_getElem (by omega)⟩
    refine .inr ⟨o, by rw [List.getElem?_append_left (by omega)]; exact ho, ?_⟩
    refine cloO_le (n := S'.length) ?_ (hc o (List.mem_of_getElem? ho))
    rw [hl, List.length_append]
    omega
  · refine .inl ?_
    rw [List.length_append] at hi
    have a1 : (S' ++ (os ++ ks))[i]? = os[i - S.length]? := by
      rw [List.getElem?_append_right (by omega), hl, List.getElem?_append_left (by omega)]
    have a2 : (S ++ os)[i]? = os[i - S.length]? := List.getElem?_append_right (by omega)
    rw [a1, a2]
theorem take_s {S S' os ks : MH} (hl : S'.length = S.length) : (S' ++ (os ++ ks)).take (S ++ os).length = S' ++ os := by
  rw [← List.append_assoc, List.length_append, ← hl, ← List.length_append, List.take_left]
theorem cut_s {f : MF} {xs : List MV} {v : MV} {S S' os ks : MH} (e : f xs (S ++ os) = ok v (S' ++ (os ++ ks))) (hl : S'.length = S.length) (hc : Self S') (hv : cloV 0 v = true) : cutF f xs (S ++ os) = ok v (S' ++ os) := cut_eq e hv (cutOk_s hl hc) (take_s hl)
theorem cutT_eq {m : MT} {s s1 : MS} {h h' h2 : MH} (e : m s h = some (.nx s1 h')) (hv : cloS h.length s1 = true) (hk : CutOk h h') (ht : h'.take h.length = h2) : cutT m s h = some (.nx s1 h2) := by
  unfold cutT
  rw [e]
  dsimp only
  rw [if_pos ⟨hv, hk⟩, ht]
theorem cutT_p {m : MT} {s s1 : MS} {h os : MH} (e : m s h = some (.nx s1 (h ++ os))) (hv : cloS h.length s1 = true) : cutT m s h = some (.nx s1 h) := by
  refine cutT_eq e hv ⟨(keeps (P := fun _ => False) os).le, fun i hi => .inl ((keeps (P := fun _ => False) os).at_ i hi fun z => z)⟩ ?_
  rw [List.take_left]
theorem cutT_s {m : MT} {s s1 : MS} {S S' os ks : MH} (e : m s (S ++ os) = some (.nx s1 (S' ++ (os ++ ks)))) (hl : S'.length = S.length) (hc : Self S') (hv : cloS (S ++ os).length s1 = true) : cutT m s (S ++ os) = some (.nx s1 (S' ++ os)) := cutT_eq e hv (cutOk_s hl hc) (take_s hl)
theorem cutT_ret {m : MT} {s : MS} {v : MV} {h h' : MH} (e : m s h = some (.ret v h')) : cutT m s h = some (.ret v h') := by
  unfold cutT
  rw [e]
/-! a list of lists in the heap -/
def refsM (b n : Nat) : List MV := tb n fun k => .ref (b + k)
def matH (b : Nat) (rows : List (List MV)) : MH := rows.map MO.lst ++ [MO.lst (refsM b rows.length)]
theorem matH_len {b : Nat} {rows : List (List MV)} : (matH b rows).length = rows.length + 1 := by simp [matH]
theorem mat_top {b n : Nat} {rows : List (List MV)} {ks : MH} (hn : rows.length = n) : (matH b rows ++ ks)[n]? = some (.lst (refsM b n)) := by
  subst hn
  simp [matH]
theorem mat_row {b i : Nat} {rows : List (List MV)} {ks : MH} {r : List MV} (h : rows[i]? = some r) : (matH b rows ++ ks)[i]? = some (.lst r) := by
  have hi := (List.getElem?_eq_some_iff.mp h).1
  unfold matH
  rw [List.append_assoc, List.getElem?_append_left (by simpa using hi), List.getElem?_map, h]
  rfl
theorem mat_set {b i : Nat} {rows : List (List MV)} {ks : MH} {r : List MV} (h : i < rows.length) : (matH b rows ++ ks).set i (.lst r) = matH b (rows.set i r) ++ ks := by
  unfold matH
  rw [List.append_assoc, List.set_append_left _ _ (by simpa using h), List.map_set, List.length_set, List.append_assoc]
theorem refs_get {b n i : Nat} (h : i < n) : (refsM b n)[i]? = some (.ref (b + i)) := tb_get h
theorem refs_len {b n : Nat} : (refsM b n).length = n := tb_len
/-- all rows of a comprehension of lists -/
theorem mat_new {β : Type} {i : Nat} {f : β → MV} {s0 : MS} {m : MM (List MV)} (row : β → List MV) {xs : List β} {h : MH} (hl : xs.length ≤ lim) (hs : ∀ x ∈ xs, ∀ h, m (s0.set i (some (f x))) h = ok (row x) h) :
    lcS (one i) yesT (refM m) s0 (xs.map f) [] h = ok (refsM h.length xs.length) (h ++ xs.map fun x => MO.lst (row x)) := by
  obtain ⟨acc, a, e, e1, e2⟩ := lc_m (g := one i) (cd := yesT) (el := refM m) (s0 := s0) (f := f) (xs := xs) (H := fun k : Nat => h ++ (xs.take k).map fun x => MO.lst (row x)) (fun k acc j => acc = refsM h.length k ∧ j = k) (a0 := 0) ⟨rfl, rfl⟩ fun k x acc j hx ⟨e1, e2⟩ => by
    subst e1
    subst e2
    have hk := (List.getElem?_eq_some_iff.mp hx).1
    refine ⟨_, rfl, true, j, rfl, fun _ => ⟨.ref (h.length + j), j + 1, ?_, ?_, ?_, rfl⟩, fun z => nomatch z⟩
    · show (m (s0.set i (some (f x))) _).bnd _ = _
      rw [hs x (List.mem_of_getElem? hx), bnd_ok, List.take_add_one, hx]
      simp
      omega
    · rw [refs_len]
      omega
    · unfold refsM
      rw [tb_succ]
  rw [e1, e2] at e
  rw [List.take_length] at e
  simpa using e
theorem frzL_refs {b n : Nat} : ∀ {rows : List (List MV)} {pre : MH} {ks : MH}, (∀ r ∈ rows, r.all flatT = true) → pre.length = b →
    frzL (n + 3) ((List.range rows.length).map fun k => MV.ref (b + k)) (pre ++ (rows.map MO.lst ++ ks)) = some (rows.map MV.fls, pre ++ (List.replicate rows.length MO.dead ++ ks))
  | [], pre, ks, _, _ => by
    unfold frzL
    rfl
  | r :: rows, pre, ks, hr, hb => by
    have ih := frzL_refs (b := b + 1) (n := n) (rows := rows) (pre := pre ++ [MO.dead]) (ks := ks) (fun r hm => hr r (List.mem_cons_of_mem _ hm)) (by simp [hb])
    have e0 : (List.range (r :: rows).length).map (fun k => MV.ref (b + k)) = MV.ref b :: (List.range rows.length).map fun k => MV.ref (b + 1 + k) := by
      rw [List.length_cons, List.range_succ_eq_map, List.map_cons, List.map_map]
      congr 1
      refine List.map_congr_left fun i _ => ?_
      show MV.ref (b + (i + 1)) = MV.ref (b + 1 + i)
      congr 1
      omega
    have e1 : (pre ++ ((r :: rows).map MO.lst ++ ks))[b]? = some (.lst r) := by
      rw [ga0 hb]
      rfl
    have e2 : frzV (n + 3) (.ref b) (pre ++ ((r :: rows).map MO.lst ++ ks)) = some (.fls r, pre ++ [MO.dead] ++ (rows.map MO.lst ++ ks)) := by
      rw [frz_lst (n + 1) e1 (hr r (List.mem_cons_self ..)), sa0 hb]
      simp
    rw [e0]
    unfold frzL
    rw [e2]
    dsimp only
    rw [ih]
    simp [List.replicate_succ]
theorem frz_mat {b n : Nat} {rows : List (List MV)} {pre ks : MH} (hr : ∀ r ∈ rows, r.all flatT = true) (hb : pre.length = b) (hn : rows.length = n) :
    frzV 4 (.ref (b + n)) (pre ++ (matH b rows ++ ks)) = some (.fls (rows.map MV.fls), pre ++ (List.replicate (n + 1) MO.dead ++ ks)) := by
  subst hn
  have e1 : (pre ++ (matH b rows ++ ks))[b + rows.length]? = some (.lst (refsM b rows.length)) := by
    rw [ga hb, mat_top rfl]
  unfold frzV
  dsimp only
  rw [e1]
  dsimp only
  have := frzL_refs (b := b) (n := 0) (rows := rows) (pre := pre) (ks := [MO.lst (refsM b rows.length)] ++ ks) hr hb
  have e2 : pre ++ (matH b rows ++ ks) = pre ++ (rows.map MO.lst ++ ([MO.lst (refsM b rows.length)] ++ ks)) := by simp [matH]
  rw [e2]
  unfold refsM tb at this ⊢
  rw [this]
  dsimp only
  rw [sa hb]
  have e3 : (List.replicate rows.length MO.dead ++ ([MO.lst ((List.range rows.length).map fun k => MV.ref (b + k))] ++ ks)).set rows.length MO.dead = List.replicate (rows.length + 1) MO.dead ++ ks := by
    rw [sa0 (by simp)]
    simp [List.replicate_succ']
  rw [e3]
end Mi
set_option maxHeartbeats 2000000
/-! Mi: bits; orders as values; relations. -/
namespace Mi
open PySem L2
theorem bitNot_not (a : Nat) : (Builtin.bitNot (Builtin.bitNot (a : Int))) = (a : Int) := by
  unfold Builtin.bitNot
  omega
theorem bitOr_nat (a b : Nat) : Builtin.bitOr (a : Int) (b : Int) = ((a ||| b : Nat) : Int) := by
  have na : ∀ a : Nat, ¬ (0 ≤ Builtin.bitNot (a : Int)) := fun a => by
    unfold Builtin.bitNot
    omega
  unfold Builtin.bitOr Builtin.bitAnd
  simp only [decide_eq_false (na a), decide_eq_false (na b), bitNot_not, Int.toNat_natCast]
theorem bitAnd_nat (a b : Nat) : Builtin.bitAnd (a : Int) (b : Int) = ((a &&& b : Nat) : Int) := by
  unfold Builtin.bitAnd
  simp only [decide_eq_true (Int.natCast_nonneg a), decide_eq_true (Int.natCast_nonneg b), Int.toNat_natCast]
theorem low_bit {p a : Nat} : (2 ^ (p + 1) * a + 2 ^ p) &&& (2 ^ (p + 1) * a + 2 ^ p - 1) = 2 ^ (p + 1) * a := by
  have h1 : 2 ^ p < 2 ^ (p + 1) := by rw [Nat.pow_succ]; have := Nat.two_pow_pos p; omega
  have h0 := Nat.two_pow_pos p
  have e : 2 ^ (p + 1) * a + 2 ^ p - 1 = 2 ^ (p + 1) * a + (2 ^ p - 1) := by omega
  rw [e]
  apply Nat.eq_of_testBit_eq
  intro j
  have e0 : 2 ^ (p + 1) * a = 2 ^ (p + 1) * a + 0 := rfl
  rw [Nat.testBit_and, Nat.testBit_two_pow_mul_add _ h1, Nat.testBit_two_pow_mul_add _ (by omega)]
  conv => rhs; rw [e0, Nat.testBit_two_pow_mul_add _ (Nat.two_pow_pos _)]
  by_cases c : j < p + 1
  · rw [if_pos c, if_pos c, if_pos c, Nat.testBit_two_pow, Nat.testBit_two_pow_sub_one, Nat.zero_testBit]
    by_cases d : p = j
    · simp [d]
    · simp [d]
  · rw [if_neg c, if_neg c, if_neg c, Bool.and_self]
theorem and_neg {m k : Nat} (h0 : 0 < m) (e : m &&& (m - 1) = k) : Builtin.bitAnd (m : Int) (-(m : Int)) = ((m - k : Nat) : Int) := by
  have hk : k ≤ m := by rw [← e]; exact Nat.and_le_left
  have a : decide (0 ≤ (m : Int)) = true := decide_eq_true (by omega)
  have b : decide (0 ≤ -(m : Int)) = false := decide_eq_false (by omega)
  have c : (Builtin.bitNot (-(m : Int))).toNat = m - 1 := by
    unfold Builtin.bitNot
    omega
  unfold Builtin.bitAnd
  simp only [a, b, c, Int.toNat_natCast, e]
  omega
theorem bits_pow {p : Nat} : Builtin.Int.intBits (((2 ^ p : Nat) : Int)) = p + 1 := by
  unfold Builtin.Int.intBits
  have h0 := Nat.two_pow_pos p
  have : ¬ (((2 ^ p : Nat) : Int) == 0) = true := by
    rw [beq_iff_eq]
    omega
  rw [if_neg this, Int.natAbs_natCast, Nat.log2_two_pow]
theorem shr_bit {m k : Nat} : ((m : Int) / 2 ^ k) = ((m >>> k : Nat) : Int) := by
  rw [Nat.shiftRight_eq_div_pow]
  simp
theorem bit1 {m k : Nat} : (m >>> k) &&& 1 = if m.testBit k then 1 else 0 := by
  unfold Nat.testBit
  rw [Nat.and_comm, Nat.one_and_eq_mod_two]
  rcases Nat.mod_two_eq_zero_or_one (m >>> k) with e | e <;> simp [e]
/-- m >> k & 1, as a test -/
theorem tst_bit {a b : ME} {s : MS} {h : MH} {m k : Nat} (ha : a s h = ok (.int (m : Int)) h) (hb : b s h = ok (.int (k : Int)) h) : (truM (opM andF (opM shrF a b) (cM (.int 1)))) s h = ok (m.testBit k) h := by
  have e : Builtin.bitAnd ((m >>> k : Nat) : Int) 1 = (((m >>> k) &&& 1 : Nat) : Int) := bitAnd_nat _ 1
  rw [bit1] at e
  have e0 : ((m : Int) / 2 ^ k) = ((m >>> k : Nat) : Int) := shr_bit
  obtain ⟨q, hq⟩ : ∃ q : Nat, m >>> k = q := ⟨_, rfl⟩
  rw [hq] at e e0
  cases c : m.testBit k with
  | true =>
    rw [c] at e
    have e' : Builtin.bitAnd (q : Int) 1 = 1 := e
    simp [ha, hb, e0, e']
  | false =>
    rw [c] at e
    have e' : Builtin.bitAnd (q : Int) 1 = 0 := e
    simp [ha, hb, e0, e']
/-- the mask of the numbers below n that are in g -/
def msk (n : Nat) (g : Nat → Bool) : Nat := match n with
  | 0 => 0
  | n + 1 => msk n g + if g n = true then 2 ^ n else 0
theorem msk_lt : ∀ (n : Nat) (g : Nat → Bool), msk n g < 2 ^ n
  | 0, _ => Nat.one_pos
  | n + 1, g => by
    have := msk_lt n g
    unfold msk
    rw [Nat.pow_succ]
    by_cases c : g n = true
    · rw [if_pos c]
      omega
    · rw [if_neg c]
      omega
theorem msk_bit : ∀ (n : Nat) (g : Nat → Bool) (j : Nat), (msk n g).testBit j = (decide (j < n) && g j)
  | 0, g, j => by
    rw [decide_eq_false (Nat.not_lt_zero _), Bool.false_and]
    exact Nat.zero_testBit _
  | n + 1, g, j => by
    have hl := msk_lt n g
    have ih := msk_bit n g j
    unfold msk
    by_cases c : g n = true
    · rw [if_pos c]
      have e : msk n g + 2 ^ n = 2 ^ n * 1 + msk n g := by omega
      rw [e, Nat.testBit_two_pow_mul_add _ hl]
      by_cases h : j < n
      · rw [if_pos h, ih, decide_eq_true h, decide_eq_true (show j < n + 1 by omega)]
      · rw [if_neg h]
        by_cases h2 : j = n
        · subst h2
          rw [Nat.sub_self, c, decide_eq_true (Nat.lt_succ_self _)]
          rfl
        · rw [decide_eq_false (by omega), Bool.false_and, Bool.eq_false_iff]
          exact fun z => absurd (Nat.testBit_one_eq_true_iff_self_eq_zero.mp z) (by omega)
    · rw [if_neg c, Nat.add_zero, ih]
      by_cases h : j < n
      · rw [decide_eq_true h, decide_eq_true (show j < n + 1 by omega)]
      · by_cases h2 : j = n
        · subst h2
          rw [Bool.eq_false_iff.mpr c, Bool.and_false, Bool.and_false]
        · rw [decide_eq_false h, decide_eq_false (show ¬ j < n + 1 by omega)]
theorem msk_ext {n m : Nat} {g : Nat → Bool} (h : ∀ j, m.testBit j = (decide (j < n) && g j)) : m = msk n g := Nat.eq_of_testBit_eq fun j => by rw [h, msk_bit]
theorem msk_congr {n : Nat} {g k : Nat → Bool} (h : ∀ j, j < n → g j = k j) : msk n g = msk n k := msk_ext fun j => by
  rw [msk_bit]
  by_cases c : j < n
  · rw [h j c]
  · rw [decide_eq_false c]
    rfl
theorem msk_none {n : Nat} : msk n (fun _ => false) = 0 := (msk_ext fun j => by rw [Nat.zero_testBit, Bool.and_false]).symm
theorem msk_or {n : Nat} {g k : Nat → Bool} : msk n g ||| msk n k = msk n fun j => g j || k j := msk_ext fun j => by
  rw [Nat.testBit_or, msk_bit, msk_bit, Bool.and_or_distrib_left]
theorem msk_and {n : Nat} {g k : Nat → Bool} : msk n g &&& msk n k = msk n fun j => g j && k j := msk_ext fun j => by
  rw [Nat.testBit_and, msk_bit, msk_bit]
  by_cases c : j < n <;> simp [c]
theorem msk_one {n y : Nat} {g : Nat → Bool} (hy : y < n) : msk n g ||| 2 ^ y = msk n fun j => g j || decide (j = y) := msk_ext fun j => by
  rw [Nat.testBit_or, msk_bit, Nat.testBit_two_pow]
  by_cases c : j = y
  · subst c
    simp [hy]
  · simp [c, Ne.symm c]
theorem msk_zero {n : Nat} {g : Nat → Bool} : msk n g = 0 ↔ ∀ j, j < n → g j = false := by
  constructor
  · intro h j hj
    have := msk_bit n g j
    rw [h, Nat.zero_testBit, decide_eq_true hj, Bool.true_and] at this
    exact this.symm
  · intro h
    rw [← msk_none (n := n)]
    exact msk_congr h
/-- the points of a set, ascending -/
def fib (n : Nat) (g : Nat → Bool) : List Nat := (List.range n).filter g
theorem fib_mem {n j : Nat} {g : Nat → Bool} : j ∈ fib n g ↔ j < n ∧ g j = true := by
  unfold fib
  rw [List.mem_filter, List.mem_range]
theorem fib_len {n : Nat} {g : Nat → Bool} : (fib n g).length ≤ n := by
  unfold fib
  exact Nat.le_trans (List.length_filter_le _ _) (by simp)
theorem fib_congr {n : Nat} {c d : Nat → Bool} (h : ∀ i, i < n → c i = d i) : fib n c = fib n d := by
  unfold fib
  rw [List.filter_congr fun x hx => h x (List.mem_range.mp hx)]
theorem fib_nil {n : Nat} {g : Nat → Bool} : fib n g = [] ↔ ∀ j, j < n → g j = false := by
  unfold fib
  rw [List.filter_eq_nil_iff]
  simp
/-- the pairs of a relation, row by row -/
def prs (n : Nat) (f : Nat → Nat → Bool) : List (Nat × Nat) := (List.range n).flatMap fun x => (fib n (f x)).map fun y => (x, y)
theorem prs_mem {n : Nat} {f : Nat → Nat → Bool} {p : Nat × Nat} : p ∈ prs n f ↔ p.1 < n ∧ p.2 < n ∧ f p.1 p.2 = true := by
  unfold prs
  rw [List.mem_flatMap]
  constructor
  · rintro ⟨x, hx, h⟩
    obtain ⟨y, hy, e⟩ := List.mem_map.mp h
    subst e
    exact ⟨List.mem_range.mp hx, fib_mem.mp hy⟩
  · rintro ⟨h1, h2, h3⟩
    exact ⟨p.1, List.mem_range.mpr h1, List.mem_map.mpr ⟨p.2, fib_mem.mpr ⟨h2, h3⟩, rfl⟩⟩
theorem prs_upto {n k : Nat} {f : Nat → Nat → Bool} (h : k ≤ n) : ((List.range k).flatMap fun x => (fib n (f x)).map fun y => (x, y)).length ≤ k * n := by
  induction k with
  | zero => simp
  | succ k ih =>
    have := ih (by omega)
    have := fib_len (n := n) (g := f k)
    rw [List.range_succ, List.flatMap_append, List.length_append, Nat.succ_mul]
    simp only [List.flatMap_cons, List.flatMap_nil, List.append_nil, List.length_map]
    omega
theorem prs_len {n : Nat} {f : Nat → Nat → Bool} : (prs n f).length ≤ n * n := prs_upto (Nat.le_refl _)
def ordV (n : Nat) (ps : List (Nat × Nat)) : MV := .tup [nV n, .tup (ps.map prV)]
@[simp] theorem clo_ord {k n : Nat} {ps : List (Nat × Nat)} : cloV k (ordV n ps) = true := by simp [ordV]
/-! slices -/
theorem sIx_n {n d i : Nat} : HT.sIx n d (some (i : Int)) = min i n := by
  unfold HT.sIx
  have : ¬ ((i : Int) < 0) := by omega
  simp [this]
theorem cut_take {xs : List MV} {i : Nat} : cutM xs none (some (i : Int)) = xs.take i := by
  unfold cutM
  rw [show HT.sIx xs.length 0 none = 0 from rfl, sIx_n, List.drop_zero, Nat.sub_zero, Nat.min_comm, List.take_eq_take_iff]
  omega
theorem cut_drop {xs : List MV} {i : Nat} : cutM xs (some (i : Int)) none = xs.drop i := by
  unfold cutM
  rw [show HT.sIx xs.length xs.length none = xs.length from rfl, sIx_n]
  by_cases h : i ≤ xs.length
  · rw [Nat.min_eq_left h, List.take_of_length_le (by simp)]
  · rw [Nat.min_eq_right (by omega), Nat.sub_self, List.take_zero, List.drop_eq_nil_of_le (by omega)]
theorem cut_last {xs : List MV} : cutM xs (some (-1)) none = xs.drop (xs.length - 1) := by
  unfold cutM
  have e : HT.sIx xs.length 0 (some (-1)) = xs.length - 1 := by
    unfold HT.sIx
    simp
    omega
  rw [show HT.sIx xs.length xs.length none = xs.length from rfl, e, List.take_of_length_le (by simp)]
/-! tables of truth values in the heap -/
def rowB (n : Nat) (c : Nat → Bool) : List MV := tb n fun y => MV.bl (c y)
def rowsB (n : Nat) (f : Nat → Nat → Bool) : List (List MV) := tb n fun x => rowB n (f x)
theorem rowB_get {n y : Nat} {c : Nat → Bool} (h : y < n) : (rowB n c)[y]? = some (.bl (c y)) := tb_get h
theorem rowsB_get {n x : Nat} {f : Nat → Nat → Bool} (h : x < n) : (rowsB n f)[x]? = some (rowB n (f x)) := tb_get h
theorem rowB_len {n : Nat} {c : Nat → Bool} : (rowB n c).length = n := tb_len
theorem rowsB_len {n : Nat} {f : Nat → Nat → Bool} : (rowsB n f).length = n := tb_len
theorem rowB_congr {n : Nat} {c d : Nat → Bool} (h : ∀ y, y < n → c y = d y) : rowB n c = rowB n d := tb_congr fun y hy => by rw [h y hy]
theorem rowsB_congr {n : Nat} {f g : Nat → Nat → Bool} (h : ∀ x y, x < n → y < n → f x y = g x y) : rowsB n f = rowsB n g := tb_congr fun x hx => rowB_congr fun y hy => h x y hx hy
theorem rowB_set {n y : Nat} {c : Nat → Bool} {v : Bool} : (rowB n c).set y (.bl v) = rowB n fun j => if j = y then v else c j := by
  unfold rowB
  rw [tb_set]
  refine tb_congr fun i _ => ?_
  by_cases q : i = y <;> simp [q]
theorem rowsB_set {n x : Nat} {f : Nat → Nat → Bool} {c : Nat → Bool} : (rowsB n f).set x (rowB n c) = rowsB n fun i => if i = x then c else f i := by
  unfold rowsB
  rw [tb_set]
  refine tb_congr fun i _ => ?_
  by_cases q : i = x <;> simp [q]
theorem rowB_flat {n : Nat} {c : Nat → Bool} : (rowB n c).all flatT = true := List.all_eq_true.mpr fun x hx => by
  obtain ⟨i, _, e⟩ := tb_mem.mp hx
  rw [← e]
  rfl
theorem rowsB_flat {n : Nat} {f : Nat → Nat → Bool} : ∀ r ∈ rowsB n f, r.all flatT = true := fun r hr => by
  obtain ⟨i, _, e⟩ := tb_mem.mp hr
  rw [← e]
  exact rowB_flat
theorem rowsB_fls {n : Nat} {f : Nat → Nat → Bool} : MV.fls ((rowsB n f).map MV.fls) = matV n n f := by
  unfold rowsB rowB
  rw [tb_map]
  rfl
theorem matV_get {a b x : Nat} {f : Nat → Nat → Bool} (h : x < a) : (tb a fun x => MV.fls (tb b fun y => MV.bl (f x y)))[x]? = some (.fls (tb b fun y => .bl (f x y))) := tb_get h
theorem rep_bl {n : Nat} {v : Bool} : (List.replicate n [MV.bl v]).flatten = rowB n fun _ => v := by
  unfold rowB tb
  simp
  exact (List.eq_replicate_iff.mpr ⟨by simp, fun b hb => by simp at hb; exact hb.2.symm⟩).symm
theorem rep_int {n : Nat} {v : Int} : (List.replicate n [MV.int v]).flatten = tb n fun _ => MV.int v := by
  unfold tb
  simp
  exact (List.eq_replicate_iff.mpr ⟨by simp, fun b hb => by simp at hb; exact hb.2.symm⟩).symm
/-- a table standing behind pre: its top, a row, a row written -/
theorem tab_top {pre : MH} {b n : Nat} {f : Nat → Nat → Bool} (hb : pre.length = b) : (pre ++ matH b (rowsB n f))[b + n]? = some (.lst (refsM b n)) := by
  rw [ga hb, ← List.append_nil (matH b (rowsB n f)), mat_top rowsB_len]
theorem tab_row {pre : MH} {b n x : Nat} {f : Nat → Nat → Bool} (hb : pre.length = b) (hx : x < n) : (pre ++ matH b (rowsB n f))[b + x]? = some (.lst (rowB n (f x))) := by
  rw [ga hb, ← List.append_nil (matH b (rowsB n f)), mat_row (rowsB_get hx)]
theorem tab_set {pre : MH} {b n x : Nat} {f : Nat → Nat → Bool} {c : Nat → Bool} (hb : pre.length = b) (hx : x < n) : (pre ++ matH b (rowsB n f)).set (b + x) (.lst (rowB n c)) = pre ++ matH b (rowsB n fun i => if i = x then c else f i) := by
  rw [sa hb, ← List.append_nil (matH b (rowsB n f)), mat_set (by rw [rowsB_len]; exact hx), rowsB_set, List.append_nil]
/-- a place behind a source and other places -/
theorem at1 {S os t : MH} {o : MO} {a p : Nat} (h1 : S.length = a) (hp : p = a + os.length) : (S ++ (os ++ (o :: t)))[p]? = some o := by
  subst hp
  rw [ga h1, ga0 rfl]
  rfl
theorem st1 {S os t : MH} {o u : MO} {a p : Nat} (h1 : S.length = a) (hp : p = a + os.length) : (S ++ (os ++ (o :: t))).set p u = S ++ (os ++ (u :: t)) := by
  subst hp
  rw [sa h1, sa0 rfl]
  rfl
theorem at2 {S os t : MH} {o o2 : MO} {a p : Nat} (h1 : S.length = a) (hp : p = a + os.length + 1) : (S ++ (os ++ (o :: o2 :: t)))[p]? = some o2 := by
  subst hp
  rw [Nat.add_assoc, ga h1, ga rfl]
  rfl
theorem st2 {S os t : MH} {o o2 u : MO} {a p : Nat} (h1 : S.length = a) (hp : p = a + os.length + 1) : (S ++ (os ++ (o :: o2 :: t))).set p u = S ++ (os ++ (o :: u :: t)) := by
  subst hp
  rw [Nat.add_assoc, sa h1, sa rfl]
  rfl
/-- a strict order on the numbers below n, by its table -/
structure SOrd (n : Nat) (f : Nat → Nat → Bool) : Prop where
  rk : ∃ ρ : Nat → Nat, ∀ x y, f x y = true → ρ x < ρ y
  lt : ∀ x y, f x y = true → x < n ∧ y < n
  tr : ∀ x y z, f x y = true → f y z = true → f x z = true
theorem SOrd.irr {n : Nat} {f : Nat → Nat → Bool} (h : SOrd n f) (x : Nat) : f x x = false := by
  obtain ⟨ρ, hr⟩ := h.rk
  cases c : f x x with
  | false => rfl
  | true => exact absurd (hr x x c) (Nat.lt_irrefl _)
theorem SOrd.asym {n : Nat} {f : Nat → Nat → Bool} (h : SOrd n f) {x y : Nat} (a : f x y = true) : f y x = false := by
  cases c : f y x with
  | false => rfl
  | true =>
    have := h.irr x
    rw [h.tr x y x a c] at this
    cases this
/-- at most -/
def leB (g : Nat → Nat → Bool) (a b : Nat) : Bool := a == b || g a b
/-- a map: values of n points, all below m -/
structure Mp (n m : Nat) (r : List Nat) : Prop where
  len : r.length = n
  lt : ∀ v ∈ r, v < m
theorem Mp.at {n m x : Nat} {r : List Nat} (h : Mp n m r) (hx : x < n) : ∃ v, r[x]? = some v ∧ v < m := ⟨r[x]'(by rw [h.len]; exact hx), List.getElem?_eq_getElem _, h.lt _ (List.getElem_mem _)⟩
theorem Mp.set {n m x v : Nat} {r : List Nat} (h : Mp n m r) (hv : v < m) : Mp n m (r.set x v) := ⟨by rw [List.length_set]; exact h.len, fun w hw => by
  rcases List.mem_or_eq_of_mem_set hw with z | z
  · exact h.lt w z
  · rw [z]
    exact hv⟩
end Mi
set_option maxHeartbeats 2000000
/-! Mi: list.remove of a number. -/
namespace Mi
open PySem L2
@[simp ↓] def remF (x : MV) (ys : List MV) (h : MH) : Res MV := match x, ys with
  | .ref l, [.int k] => match h[l]? with
    | some (.lst xs) => match intsOf xs with
      | some ns => if ns.idxOf k < ns.length then ok .non (h.set l (.lst (xs.eraseIdx (ns.idxOf k)))) else none
      | none => none
    | _ => none
  | _, _ => none
section
variable {X : Cx} {c : XC} {K : PySem.W.Frag} {W : Wd}
theorem idx_le {k : Int} : ∀ {ns : List Int} {m : Nat}, ns[m]? = some k → ns.idxOf k ≤ m
  | [], _, e => by simp at e
  | x :: xs, 0, e => by
    simp at e
    rw [List.idxOf_cons, e]
    simp
  | x :: xs, m + 1, e => by
    have ih := idx_le (ns := xs) (m := m) (k := k) (by simpa using e)
    rw [List.idxOf_cons]
    cases (x == k) with
    | true => exact Nat.zero_le _
    | false => exact Nat.succ_le_succ ih
theorem mt_rem : MtM X "list.remove" rRemI := mt_remove
theorem mm_rem : MthM K c rRemI remF := fun W h x ys v vs Q S r rs p => by
  unfold remF at p
  split at p
  · rename_i l k
    obtain ⟨u, rfl, ru⟩ := rvs_one rs
    cases hl : h[l]? with
    | none =>
      rw [hl] at p
      exact p.elim
    | some o =>
      rw [hl] at p
      cases o with
      | dead => exact p.elim
      | dK kvs => exact p.elim
      | ins cn kvs => exact p.elim
      | lst xs =>
        dsimp only at p
        cases hn : intsOf xs with
        | none =>
          rw [hn] at p
          exact p.elim
        | some ns =>
          rw [hn] at p
          dsimp only at p
          by_cases q : ns.idxOf k < ns.length
          · rw [if_pos q] at p
            obtain ⟨a, ws, rfl, e2, e3, t⟩ := S.lstAt hl r
            obtain ⟨h1, h2⟩ := ints_V t hn
            subst h1
            refine ⟨a, ns, k, ns.idxOf k, rfl, by rw [rv_int ru], e3, by rw [List.getElem?_eq_getElem q, List.getElem_idxOf], fun m hm z => ?_, ?_⟩
            · have := idx_le z
              omega
            · refine p (W.wr a (.lst ((ns.eraseIdx (ns.idxOf k)).map V.int))) (Ext.wr S e2) (S.wr e2 ⟨_, upd_same, ?_⟩) _ .non
              rw [← erase_mapI]
              exact (t.eraseIdx _).mono (Ext.wr S e2)
          · rw [if_neg q] at p
            exact p.elim
  · exact p.elim
end
theorem ints_ns : ∀ {xs : List Nat}, intsOf (xs.map nV) = some (xs.map fun (x : Nat) => (x : Int))
  | [] => rfl
  | x :: xs => by
    rw [List.map_cons]
    unfold intsOf
    rw [ints_ns]
    rfl
theorem idx_ns {k : Nat} : ∀ {xs : List Nat}, (xs.map fun (x : Nat) => (x : Int)).idxOf (k : Int) = xs.idxOf k
  | [] => rfl
  | x :: xs => by
    rw [List.map_cons, List.idxOf_cons, List.idxOf_cons, idx_ns]
    by_cases h : x = k
    · subst h
      simp
    · have : ¬ ((x : Int) = (k : Int)) := by omega
      rw [beq_eq_false_iff_ne.mpr h, beq_eq_false_iff_ne.mpr this]
end Mi
set_option maxHeartbeats 4000000
/-! Mi: list.extend of a tuple, a tuple turned round. -/
namespace Mi
open PySem PySem.Spec PyProof.Rows L2 HT PySem.AutoSeq1
theorem extW (l : Addr) (items : Array Value) (n : Nat) (b : Addr) (items2 : Array Value) (n2 : Nat) (o2 : Obj) (hc : o2.cls = .type "tuple") (hd : o2.data = .seq items2 n2) (hs0 : ¬(!items.isEmpty && Builtin.List.listTooLong (items.size + items2.size)) = true) (hs1 : items.size ≤ sizeLine) (hs2 : items.size + items2.size ≤ sizeLine + 1) :
    Meets (Builtin.«list.extend» ⟨[.ref l, .ref b], []⟩) (fun _ R s => s.heap.get? l = some { cls := .type "list", dict := none, data := .seq items n, slots := #[] } ∧ s.heap.get? b = some o2 ∧ R (.ok (.ret Value.none)) { s with heap := s.heap.update l (Obj.mapSeq fun x => x ++ items2), toks := s.toks }) := by
  obtain ⟨cls, dd, data, sl⟩ := o2
  simp only at hc hd
  subst hc hd
  exact .of_wp fun prog w A R s h => by
    obtain ⟨hp, g, d, tk, os⟩ := s; obtain ⟨hl, hb, h⟩ := h; have f1 := AutoSeq1.idx_int; have f2 := AutoSeq1.sub_tuple_tuple; have f3 := AutoSeq1.sub_list_list; have f4 := AutoSeq1.sub_tuple_list; have f5 := AutoSeq1.sub_list_tuple;
    have hz' : (items ++ items2).size ≤ sizeLine + 1 := by rw [Array.size_append]; exact hs2
    wp_walk using (wpAny_updateSeq hl rfl (hz := hs1) (_hz' := hz')), wpAny_loadPart' hl, wpAny_loadPart' hb; exact ⟨_, rfl, h⟩
def rExtTup (K : PySem.W.Frag) : V → List V → Hp → VK → Prop := fun x vs H Q => ∃ l b xs zs, x = .ref l ∧ vs = [.ref b] ∧ H l = some (.lst xs) ∧ SqT K H b zs ∧ xs.length + zs.length ≤ sizeLine ∧ Q .non (upd H l (.lst (xs ++ zs)))
def rExtA (K : PySem.W.Frag) : V → List V → Hp → VK → Prop := fun x vs H Q => rExtend x vs H Q ∨ rExtTup K x vs H Q
section
variable {X : Cx}
theorem mt_extA : MtM X "list.extend" (rExtA X.K) := by
  intro pins s σ H x vs v us Q I rx rv h
  rcases h with h | h
  · exact mt_extend pins s σ H x vs v us Q I rx rv h
  obtain ⟨l, b, xs, zs, rfl, rfl, hH, hB, hz, q⟩ := h
  cases rx
  obtain ⟨u, rfl, ru⟩ := rv.one
  cases ru
  obtain ⟨z, its, n, r, hl, e⟩ := I.lstM hH
  obtain ⟨its2, r2, ⟨o2, e2, c2, n2, d2⟩, z2⟩ := I.tuple hB
  have hl2 := r2.length
  have hsz : its.toArray.size + its2.toArray.size ≤ sizeLine := by rw [List.size_toArray, List.size_toArray]; omega
  have hlong : ¬ (!its.toArray.isEmpty && Builtin.List.listTooLong (its.toArray.size + its2.toArray.size)) = true := by
    rw [notLongL hsz, Bool.and_false]
    exact Bool.false_ne_true
  refine call_meets F.slot_list_extend ⟨_, e, rfl⟩ F.entry_list_extend (F.args_list_extend_2 _ _)
    (extW l its.toArray n b its2.toArray n2 o2 c2 d2 hlong (by rw [List.size_toArray]; omega) (by omega)) ⟨e, e2, ?_⟩
  refine ⟨.non, _, I.lset (its' := its ++ its2) hH e (by simp) (r.append r2) ?_, rfl, q⟩
  rw [List.length_append]
  omega
end
@[simp ↓] def extTF (x : MV) (ys : List MV) (h : MH) : Res MV := match ys with
  | [.tup zs] => match x with
    | .ref l => match h[l]? with
      | some (.lst xs) => if xs.length + zs.length ≤ lim then ok .non (h.set l (.lst (xs ++ zs))) else none
      | _ => none
    | _ => none
  | ys => extF x ys h
section
variable {X : Cx} {c : XC} {K : PySem.W.Frag} {W : Wd}
theorem mm_extA : MthM K c (rExtA K) extTF := fun W h x ys v vs Q S r rs p => by
  unfold extTF at p
  split at p
  · rename_i zs
    refine .inr ?_
    cases x with
    | ref l =>
      dsimp only at p
      obtain ⟨w, rfl, ri⟩ := rvs_one rs
      cases hl : h[l]? with
      | none =>
        rw [hl] at p
        exact p.elim
      | some o =>
        rw [hl] at p
        cases o with
        | dead => exact p.elim
        | dK kvs => exact p.elim
        | ins cn kvs => exact p.elim
        | lst xs =>
          dsimp only at p
          by_cases q : xs.length + zs.length ≤ lim
          · rw [if_pos q] at p
            obtain ⟨a, ws, rfl, e2, e3, t⟩ := S.lstAt hl r
            obtain ⟨a2, ws2, rfl, e22, t2⟩ := tup_sq ri
            refine ⟨a, a2, ws, ws2, rfl, rfl, e3, e22, by rw [← t.length, ← t2.length]; exact lim_line q, ?_⟩
            exact p (W.wr a (.lst (ws ++ ws2))) (Ext.wr S e2) (S.wr e2 ⟨_, upd_same, (t.append t2).mono (Ext.wr S e2)⟩) _ .non
          · rw [if_neg q] at p
            exact p.elim
    | _ => exact p.elim
  · exact .inl (mm_ext W h x _ v vs Q S r rs p)
end
/-! ### a tuple turned round -/
section
variable {prog : Program} {w : World} {A : Around} {E : Value → Shared → Prop} {s : Shared}
theorem places_rev (n : Nat) : Builtin.Slice.slicePlaces ((n : Int) - 1) (-1) (-1) = n := by
  unfold Builtin.Slice.slicePlaces
  rw [if_neg (by decide)]
  by_cases h : (n : Int) - 1 > -1
  · rw [if_pos h, show (- -1 : Int) = 1 by decide, Int.ediv_one]
    omega
  · rw [if_neg h]
    omega
theorem sliceApplied_rev {sl : Addr} {vl vu vs : Value} {n : Nat} {Q : Int × Int × Nat → Shared → Prop} (hs : s.heap.IsSliceOf sl vl vu vs) (pl : IsPart vl none) (pu : IsPart vu none) (ps : IsPart vs (some (-1)))
    (h : Q ((n : Int) - 1, -1, n) s) : wpAny (model prog w) A (Builtin.Slice.sliceApplied (.ref sl) (pure (n : Int))) Q E s := by
  obtain ⟨os, hos, hcs, hds⟩ := id hs
  unfold Builtin.Slice.sliceApplied Builtin.Slice.sliceFields
  refine wpAny_bind (wpAny_bind (wpAny_field hos hds (x := vl) rfl (wpAny_bind (wpAny_field hos hds (x := vu) rfl (wpAny_bind (wpAny_field hos hds (x := vs) rfl (wpAny_pure ?_)))))))
  refine wpAny_bind (slicePart_ ps ?_)
  show wpAny _ _ (if ((-1 : Int) == 0) = true then _ else _) _ _ s
  rw [if_neg (by decide)]
  refine wpAny_bind (slicePart_ pl (wpAny_bind (slicePart_ pu (wpAny_bind (wpAny_pure ?_)))))
  show wpAny _ _ (pure ((n : Int) - 1, (-1 : Int), Builtin.Slice.slicePlaces ((n : Int) - 1) (-1) (-1))) _ _ s
  rw [places_rev]
  exact wpAny_pure h
theorem pick_rev (xs : Array Value) : ((List.range xs.size).filterMap fun (m : Nat) => xs[((xs.size : Int) - 1 + (m : Int) * -1).toNat]?).toArray = xs.toList.reverse.toArray := by
  have e : (List.range xs.size).filterMap (fun (m : Nat) => xs[((xs.size : Int) - 1 + (m : Int) * -1).toNat]?) = ((List.range xs.size).map fun k => xs.size - 1 - k).filterMap (xs[·]?) := by
    rw [List.filterMap_map]
    congr 1
    funext m
    have : ((xs.size : Int) - 1 + (m : Int) * -1).toNat = xs.size - 1 - m := by omega
    rw [this]
    rfl
  rw [e, PySem.W.krv_range, List.filterMap_reverse, PySem.W.krv_all]
theorem getItem_tuple_rev {t sl : Addr} {items : Array Value} {vl vu vs : Value} {Q : Value → Shared → Prop} (ht : IsTup s.heap t items) (hs : s.heap.IsSliceOf sl vl vu vs) (pl : IsPart vl none) (pu : IsPart vu none) (ps : IsPart vs (some (-1)))
    (h : Q (.ref s.heap.objs.size) { s with heap := s.heap.push { cls := .type "tuple", data := .seq items.toList.reverse.toArray } })
    (hsz : items.size ≤ sizeLine) : wpAny (model prog w) A (getItem (.ref t) (.ref sl)) Q E s := by
  have htake : sizeOk (.seq items.toList.reverse.toArray) := by
    show items.toList.reverse.toArray.size ≤ sizeLine
    rw [List.size_toArray, List.length_reverse, Array.length_toList]
    omega
  obtain ⟨os, hos, hcs, hds⟩ := id hs
  have hTs : s.TypeIs (.ref sl) "slice" := ⟨os, hos, hcs⟩
  unfold getItem
  try with_reducible refine wpAny_holding ?_
  first | refine wpAny_bind (wpAny_pure ?_) | skip
  refine wpAny_bind (wpAny_sequenceKey ht.typeIs (by decide) ?_)
  refine wpAny_bind (wpAny_callSpecial?_slot (name := Str.ofString "__getitem__") ht.typeIs PyProof.Rows.slot_tuple_getitem
    (wpAny_call_entry PyProof.Rows.slot_tuple_getitem ht.typeIs entry_tuple_getitem ?_ (args_tuple_getitem _ _)))
  show wpAny _ _ (Builtin.Tuple.tupleItemsOf (.ref t) >>= _) _ _ s
  refine wpAny_bind (tupleItemsOf_ ht ?_)
  refine wpAny_bind (wpAny_typeOf hTs ?_)
  rw [if_pos (by decide)]
  refine wpAny_bind (sliceApplied_rev hs pl pu ps ?_)
  have hno : ¬ ((((items.size : Int) - 1) == 0 && (-1 : Int) == 1 && items.size == items.size) = true) := by simp
  show wpAny _ _ (if (((items.size : Int) - 1) == 0 && (-1 : Int) == 1 && items.size == items.size) = true then _ else _) _ _ s
  rw [if_neg hno, pick_rev]
  first
    | exact wpAny_bind (m := Builtin.Tuple.tupleExact _) (wpAny_newObj_type (wpAny_pure ⟨_, rfl, wpAny_pure h⟩) htake)
    | exact wpAny_bind (m := Builtin.Tuple.tupleExact _) (wpAny_newObj_type (wpAny_bind (wpAny_pure (wpAny_pure ⟨_, rfl, wpAny_pure h⟩))) htake)
    | exact wpAny_bind (wpAny_bind (m := Builtin.Tuple.tupleExact _) (wpAny_newObj_type (wpAny_pure (wpAny_pure ⟨_, rfl, wpAny_pure h⟩)) htake))
    | exact wpAny_bind (wpAny_bind (m := Builtin.Tuple.tupleExact _) (wpAny_newObj_type (wpAny_pure ⟨_, rfl, wpAny_pure h⟩) htake))
end
def tRevA (K : PySem.W.Frag) (te : TE) : TE := fun σ H Q => te σ H fun x H1 => ∃ a xs, x = .ref a ∧ ((SqL K H1 a xs ∧ ∀ p, H1 p = none → Q (.ref p) (upd H1 p (.lst xs.reverse))) ∨ (SqT K H1 a xs ∧ ∀ p, H1 p = none → Q (.ref p) (upd H1 p (.tup xs.reverse))))
theorem pe_revA {X : Cx} {e : Expr} {te : TE} {k : Nat} {p1 p2 p3 pos : Pos} (he : PE X e te) : PE X (.Subscript e (.Slice none none (some (.UnaryOp .USub (.Constant (.int 1) k p1) p2)) p3) pos) (tRevA X.K te) := by
  refine ⟨fun pins s σ H Q I h => ?_⟩
  refine Subscript_ (thn (he.run pins s σ H _ I h) fun v s1 ⟨x, H1, I1, r1, q1⟩ => ?_)
  obtain ⟨a, xs, ex, q⟩ := q1
  subst ex
  cases r1
  have hst : PO X (some (.UnaryOp .USub (.Constant (.int 1) k p1) p2)) (tPart (tUn (rU fun i => .int (-i)) (tC (.int 1)))) := po_some (pe_un un_neg pe_int)
  refine wpAny_Slice (thn (po_none.run pins s1 σ H1 (fun o H2 => o = none ∧ H2 = H1) I1 ⟨rfl, rfl⟩) fun vl s2 ⟨l, H2, I2, pl, el, e2⟩ => ?_)
  subst el e2
  refine thn (po_none.run pins s2 σ H2 (fun o H3 => o = none ∧ H3 = H2) I2 ⟨rfl, rfl⟩) fun vu s3 ⟨u, H3, I3, pu, eu, e3⟩ => ?_
  subst eu e3
  refine thn (hst.run pins s3 σ H3 (fun o H4 => o = some (-1) ∧ H4 = H3) I3 ⟨1, rfl, -1, rfl, rfl, rfl⟩) fun vs s4 ⟨o, H4, I4, ps, eo, e4⟩ => ?_
  subst eo e4
  have I5 : Inv X pins σ H4 { s4 with heap := s4.heap.push { cls := .type "slice", data := .fields #[vl, vu, vs] } } := I4.kept (t' := s4.toks) fun b ob q => Heap.get?_push_of_some _ q
  show wpAny (model X.prog X.w) X.A (subscriptTail e (.Slice none none (some (.UnaryOp .USub (.Constant (.int 1) k p1) p2)) p3) (.ref a) (.ref s4.heap.objs.size)) (EP X pins σ Q) X.xe { s4 with heap := s4.heap.push { cls := .type "slice", data := .fields #[vl, vu, vs] } }
  rcases q with ⟨hx, q⟩ | ⟨hx, q⟩
  · obtain ⟨its, r, ht, hz⟩ := I5.list hx
    have hlen := r.length
    refine tail_any (ops := [.ref a, .ref s4.heap.objs.size]) ht.isList.typeIs (PySem.slot_list_getitem.lookup) ?_ (by with_unfolding_all rfl)
    refine wpAny_getItem_list_slice ht.isList (Heap.IsSliceOf.new _ vl vu vs) pl pu ps (by decide) ?_ (by rw [List.size_toArray]; omega)
    rw [PySem.W.krv_pick]
    refine ⟨.ref _, _, I5.laid (t' := s4.toks) (o := .lst xs.reverse) (fun b ob q => Heap.get?_push_of_some _ q) (Nat.le_refl _) ?_, rfl, q _ (I5.hok.fresh (Nat.le_refl _))⟩
    exact ⟨by rw [List.length_reverse]; exact hz, _, 0, r.reverse, Heap.get?_push_size _ rfl⟩
  · obtain ⟨its, r, ht, hz⟩ := I5.tuple hx
    have hlen := r.length
    refine tail_any (ops := [.ref a, .ref s4.heap.objs.size]) ht.typeIs (PyProof.Rows.slot_tuple_getitem.lookup) ?_ (by with_unfolding_all rfl)
    refine getItem_tuple_rev ht (Heap.IsSliceOf.new _ vl vu vs) pl pu ps ?_ (by rw [List.size_toArray]; omega)
    refine ⟨.ref _, _, I5.laid (t' := s4.toks) (o := .tup xs.reverse) (fun b ob q => Heap.get?_push_of_some _ q) (Nat.le_refl _) ?_, rfl, q _ (I5.hok.fresh (Nat.le_refl _))⟩
    exact ⟨by rw [List.length_reverse]; exact hz, _, r.reverse, IsTup.new _ _⟩
@[simp ↓] def rvsT (m : ME) : ME := fun s h => (m s h).bnd fun x h1 => match x with
  | .tup xs => ok (.tup xs.reverse) h1
  | x => match lstOf h1 x with
    | some xs => ok (.fls xs.reverse) h1
    | none => none
section
variable {X : Cx} {c : XC} {e : Expr} {pos : Pos}
theorem em_rvs {m : ME} {k : Nat} {q1 q2 q3 : Pos} (he : EM X c e m) : EM X c (.Subscript e (.Slice none none (some (.UnaryOp .USub (.Constant (.int 1) k q1) q2)) q3) pos) (rvsT m) := pe_wk (pe_revA he) fun σ H Q ⟨W, h, s, e, S, rs, p⟩ => by
  subst e
  refine ⟨W, h, s, rfl, S, rs, p.bnd fun W1 h1 x x1 S1 p1 v r1 => ?_⟩
  have go : Pst X.K c (CV X.K Q) W1 (match lstOf h1 x with | some xs => ok (.fls xs.reverse) h1 | none => none) → ∃ a xs, v = .ref a ∧ ((SqL X.K W1.H a xs ∧ ∀ p, W1.H p = none → Q (.ref p) (upd W1.H p (.lst xs.reverse))) ∨ (SqT X.K W1.H a xs ∧ ∀ p, W1.H p = none → Q (.ref p) (upd W1.H p (.tup xs.reverse)))) := fun p3 => by
    cases hx : lstOf h1 x with
    | none =>
      rw [hx] at p3
      exact p3.elim
    | some xs =>
      rw [hx] at p3
      obtain ⟨q, vs, e1, e2, t⟩ := lst_sq S1 r1 hx
      exact ⟨q, vs, e1, .inl ⟨e2, fun d hd => p3 (W1.put d _) (Ext.put S1 hd) (S1.put hd) (.ref d) (.fls (S1.fresh hd) upd_same (t.reverse.mono (Ext.put S1 hd)))⟩⟩
  cases x with
  | tup xs =>
    obtain ⟨q, vs, rfl, e2, t⟩ := tup_sq r1
    exact ⟨q, vs, rfl, .inr ⟨e2, fun d hd => p1 (W1.put d _) (Ext.put S1 hd) (S1.put hd) (.ref d) (.tup (S1.fresh hd) upd_same (t.reverse.mono (Ext.put S1 hd)))⟩⟩
  | _ => exact go p1
end
end Mi
set_option maxHeartbeats 4000000
/-! Mi: str of a number. -/
namespace Mi
open PySem L2
@[simp ↓] def strF (xs : List MV) (h : MH) : Res MV := match xs with
  | [.int i] => if i.natAbs.log2 < 1920 then ok (.str (toString i)) h else none
  | _ => none
section
variable {c : XC} {K : PySem.W.Frag}
theorem cm_str : CallM K c (fun xs H Q => ∃ i : Int, xs = [.int i] ∧ i.natAbs.log2 < 1920 ∧ Q (.str (toString i)) H) strF := fun W h xs vs Q S r p => by
  unfold strF at p
  split at p
  · rename_i i
    obtain ⟨v, rfl, r1⟩ := rvs_one r
    by_cases q : i.natAbs.log2 < 1920
    · rw [if_pos q] at p
      exact ⟨i, by rw [rv_int r1], q, Pst.now p S _ (.str _)⟩
    · rw [if_neg q] at p
      exact p.elim
  · exact p.elim
end
end Mi
set_option maxHeartbeats 4000000
/-! Mi: objects of the text's own classes: fields, methods, making; o[i] op= e of lists. -/
namespace Mi
open PySem L2
section
variable {K : PySem.W.Frag} {W : Wd}
theorem RKV.look {f : Str} : ∀ {fs : List (Str × MV)} {kws : List (Str × V)}, RKV K W fs kws → (∀ x, fs.lookup f = some x → ∃ v, kws.lookup f = some v ∧ RV K W x v) ∧ (fs.lookup f = none → kws.lookup f = none)
  | _, _, .nil => ⟨(fun _ h => by cases h), fun _ => rfl⟩
  | _, _, @RKV.cons _ _ _ k x v fs kws r t => by
    rw [List.lookup_cons, List.lookup_cons]
    cases (f == k) with
    | true => exact ⟨(fun y h => by cases h; exact ⟨v, rfl, r⟩), (fun h => by cases h)⟩
    | false => exact RKV.look t
/-- a field is written -/
def putFM (f : Str) (x : MV) : List (Str × MV) → List (Str × MV)
  | [] => [(f, x)]
  | (g, y) :: r => if g = f then (g, x) :: r else (g, y) :: putFM f x r
theorem RKV.putF {f : Str} {x : MV} {v : V} (rx : RV K W x v) : ∀ {fs : List (Str × MV)} {kws : List (Str × V)}, RKV K W fs kws → RKV K W (putFM f x fs) (L2.putF f v kws)
  | _, _, .nil => .cons rx .nil
  | _, _, @RKV.cons _ _ _ k y w fs kws r t => by
    show RKV K W (if k = f then (k, x) :: fs else (k, y) :: putFM f x fs) (if k = f then (k, v) :: kws else (k, w) :: L2.putF f v kws)
    by_cases c : k = f
    · rw [if_pos c, if_pos c]
      exact .cons rx t
    · rw [if_neg c, if_neg c]
      exact .cons r (RKV.putF rx t)
theorem RKV.lenS : ∀ {fs : List (Str × MV)} {kws : List (Str × V)}, RKV K W fs kws → fs.length = kws.length
  | _, _, .nil => rfl
  | _, _, .cons _ t => by rw [List.length_cons, List.length_cons, RKV.lenS t]
theorem Sim.insAt {h : MH} (S : Sim K W h) {l : Nat} {cn : Str} {fs : List (Str × MV)} {v : V} {C : Addr} (hC : PySem.W.nsIn K mainGlobals cn = some (some (.ref C))) (e : h[l]? = some (.ins cn fs)) (r : RV K W (.ref l) v) :
    ∃ a dx kws, v = .ref a ∧ W.f l = some a ∧ W.H a = some (.ins C dx kws) ∧ RKV K W fs kws := by
  obtain ⟨a, e1, e2, C', dx, kws, hC', e3, t⟩ := S.at e (by intro z; cases z) r
  rw [hC] at hC'
  cases hC'
  exact ⟨a, dx, kws, e1, e2, e3, t⟩
end
/-- the fields of an object of the class -/
def insOf (cn : Str) (h : MH) : MV → Option (Nat × List (Str × MV))
  | .ref l => match h[l]? with
    | some (.ins cm fs) => if cm = cn then some (l, fs) else none
    | _ => none
  | _ => none
theorem insOf_eq {cn : Str} {h : MH} {x : MV} {l : Nat} {fs : List (Str × MV)} (e : insOf cn h x = some (l, fs)) : x = .ref l ∧ h[l]? = some (.ins cn fs) := by
  cases x with
  | ref k =>
    have e' : (match h[k]? with | some (.ins cm fs) => if cm = cn then some (k, fs) else none | _ => none) = some (l, fs) := e
    cases hk : h[k]? with
    | none =>
      rw [hk] at e'
      cases e'
    | some o =>
      rw [hk] at e'
      cases o with
      | dead => cases e'
      | lst xs => cases e'
      | dK kvs => cases e'
      | ins cm gs =>
        have e2 : (if cm = cn then some (k, gs) else none) = some (l, fs) := e'
        by_cases c : cm = cn
        · rw [if_pos c] at e2
          cases e2
          subst c
          exact ⟨rfl, hk⟩
        · rw [if_neg c] at e2
          cases e2
  | _ => cases e
theorem insOf_ref {cn : Str} {h : MH} {l : Nat} {fs : List (Str × MV)} (e : h[l]? = some (.ins cn fs)) : insOf cn h (.ref l) = some (l, fs) := by
  show (match h[l]? with | some (.ins cm fs) => if cm = cn then some (l, fs) else none | _ => none) = _
  rw [e]
  exact if_pos rfl
def fldM (cn f : Str) (m : ME) : ME := fun s h => (m s h).bnd fun x h1 => match insOf cn h1 x with
  | some (_, fs) => match fs.lookup f with
    | some y => ok y h1
    | none => none
  | none => none
def fldS (cn f : Str) (mv mo : ME) : MT := fun s h => bndS (mv s h) fun y h1 => bndS (mo s h1) fun x h2 => match insOf cn h2 x with
  | some (l, fs) => if fs.length < 1000 then some (.nx s (h2.set l (.ins cn (putFM f y fs)))) else none
  | none => none
/-- o.m(..): nx says what becomes of an error -/
def methM (nx : Res MV → Res MV) (cn m : Str) (fM : MF) (ds : List MV) (mo : ME) (a : MM (List MV)) : ME := fun s h => (mo s h).bnd fun x h1 => match insOf cn h1 x with
  | some (_, fs) => if fs.lookup m = none then (a s h1).bnd fun xs h2 => nx (fM (x :: (xs ++ ds)) h2) else none
  | none => none
/-- C(..) -/
def makM (nx : Res MV → Res MV) (cn : Str) (fM : MF) (ds : List MV) (a : MM (List MV)) : ME := fun s h => (a s h).bnd fun xs h1 => (nx (fM (.ref h1.length :: (xs ++ ds)) (h1 ++ [.ins cn []]))).bnd fun y h2 => match y with
  | .non => ok (.ref h1.length) h2
  | _ => none
section
variable {X : Cx} {c : XC} {e o : Expr} {es : List Expr} {cn f m : Str} {C : Addr} {pos apos : Pos}
theorem em_fld {mo : ME} (hC : PySem.W.nsIn X.K mainGlobals cn = some (some (.ref C))) (cl : L2.Cls X.K C) (na : NoAttr X.K C f) (he : EM X c e mo) (hb : attributeBase e f X.env (eval e X.env) = eval e X.env := by rfl) : EM X c (.Attribute e f pos) (fldM cn f mo) :=
  pe_wk (pe_fld he hb) fun σ H Q ⟨W, h, s, eW, S, rs, p⟩ => by
    subst eW
    refine ⟨W, h, s, rfl, S, rs, p.bnd fun W1 h1 x x1 S1 p1 v r1 => ?_⟩
    cases hi : insOf cn h1 x with
    | none =>
      rw [hi] at p1
      exact p1.elim
    | some q =>
      obtain ⟨l, fs⟩ := q
      rw [hi] at p1
      obtain ⟨ex, el⟩ := insOf_eq hi
      subst ex
      obtain ⟨a, dx, kws, ea, _, e3, t⟩ := S1.insAt hC el r1
      cases hl : fs.lookup f with
      | none =>
        simp only [hl] at p1
        exact p1.elim
      | some y =>
        simp only [hl] at p1
        obtain ⟨v2, e4, r4⟩ := t.look.1 y hl
        exact ⟨a, C, dx, kws, v2, ea, e3, cl, na, e4, Pst.now p1 S1 _ r4⟩
theorem s_fld {mv mo : ME} {value : Expr} {pos' : Pos} (hC : PySem.W.nsIn X.K mainGlobals cn = some (some (.ref C))) (cl : L2.Cls X.K C) (na : NoAttr X.K C f) (ho : EM X c o mo) (hv : EM X c value mv) (hs : swapsWith value (some (.Attribute o f pos')) pos.line X.env = pure false := by rfl) : SM X c (.Assign [.Attribute o f pos'] value pos) (fldS cn f mv mo) :=
  ps_wk (ps_fld ho hv hs) fun D σ H ⟨W, h, s, eW, S, rs, p⟩ => by
    subst eW
    refine ⟨W, h, s, rfl, S, rs, p.bnd fun W1 h1 y x1 S1 p1 v r1 => ?_⟩
    refine ⟨W1, h1, s, rfl, S1, rs.mono x1, p1.bnd fun W2 h2 x x2 S2 p2 u r2 => ?_⟩
    cases hi : insOf cn h2 x with
    | none =>
      rw [hi] at p2
      exact p2.elim
    | some q =>
      obtain ⟨l, fs⟩ := q
      rw [hi] at p2
      dsimp only at p2
      obtain ⟨ex, el⟩ := insOf_eq hi
      subst ex
      obtain ⟨a, dx, kws, ea, e2, e3, t⟩ := S2.insAt hC el r2
      by_cases z : fs.length < 1000
      · rw [if_pos z] at p2
        refine ⟨a, C, dx, kws, ea, e3, cl, na, by have := t.lenS; omega, ?_⟩
        refine p2 (W2.wr a (.ins C dx (L2.putF f v kws))) σ (Ext.wr S2 e2) (S2.wr e2 ⟨C, dx, _, hC, upd_same, ?_⟩) (((rs.mono x1).mono x2).mono (Ext.wr S2 e2))
        exact (t.putF (r1.mono x2)).mono (Ext.wr S2 e2)
      · rw [if_neg z] at p2
        exact p2.elim
end
section
variable {X : Cx} {c : XC} {E : XK} {k : Nat} {f C : Addr} {fd : FuncData} {ps : List Str} {ds : List Value} {dvs : List V} {dms : List MV} {x cn m : Str} {p pos apos : Pos} {o e : Expr} {es : List Expr} {ma : MM (List MV)} {mo : ME} {np : Nat} {fM : MF}
theorem meth_of {CXc : CXT} {sp : Sp} {nx : Res MV → Res MV} {E' : XK} {ta : TA} {σ : St} {H : Hp} {Q : VK} (hC : PySem.W.nsIn X.K mainGlobals cn = some (some (.ref C))) (hd2 : ∀ W, RVs X.K W dms dvs)
    (ht : ∀ (W1 W2 : Wd) (h1 h2 : MH) (s : MS) (x : MV) (v : V) (q : Pst X.K c (CV X.K Q) W1 ((ma s h1).bnd fun xs h2 => nx (fM (x :: (xs ++ dms)) h2))) (S1 : Sim X.K W1 h1) (rs : RS X.K W1 s σ) (r1 : RV X.K W1 x v), ta σ W1.H fun vs H2 => sp (v :: (vs ++ dvs)) H2 Q E')
    (q : tM X.K c (methM nx cn m fM dms mo ma) σ H Q) : tMeth C m sp dvs E' (tM X.K c mo) ta σ H Q := by
  obtain ⟨W, h, s, eW, S, rs, p⟩ := q
  subst eW
  refine ⟨W, h, s, rfl, S, rs, p.bnd fun W1 h1 x x1 S1 p1 v r1 => ?_⟩
  cases hi : insOf cn h1 x with
  | none =>
    rw [hi] at p1
    exact p1.elim
  | some q =>
    obtain ⟨l, fs⟩ := q
    rw [hi] at p1
    dsimp only at p1
    obtain ⟨ex, el⟩ := insOf_eq hi
    subst ex
    obtain ⟨a, dx, kws, ea, e2, e3, t⟩ := S1.insAt hC el r1
    by_cases z : fs.lookup m = none
    · rw [if_pos z] at p1
      refine ⟨a, dx, kws, ea, e3, t.look.2 z, ?_⟩
      exact ht W1 W1 h1 h1 s _ v p1 S1 (rs.mono x1) r1
    · rw [if_neg z] at p1
      exact p1.elim
/-- o.m(e, ..), which raises nothing -/
theorem em_meth {pl : Sem Bool} (hC : PySem.W.nsIn X.K mainGlobals cn = some (some (.ref C))) (cl : L2.Cls X.K C) (hm : Meth X.K C m f) (F : FnOk X.prog X.w X.K X.mg X.base CX0 k f fd ps (spM X.K X.mg np fM)) (hn : ∀ xs h, (fM xs h).isSome = true → xs.length = np) (hr : Room k X.A) (hb : Binds X.K fd ps ds) (hd : Vals dvs ds)
    (hd2 : ∀ W, RVs X.K W dms dvs) (ho : EM X c o mo) (ha : AM X c (e :: es) ma)
    (hst : starEach (e :: es) X.env = (false, eval e X.env) :: starEach es X.env := by rfl) (hpl : (backTo pos (starEach es X.env)).any (·.1) = false := by rfl)
    (ht : eval (.Call (.Attribute o m apos) (e :: es) [] pos) X.env = (do
      let ov ← eval o X.env
      standAt apos.atName
      let (f, first) ← holding [ov] (getMethod ov m pl)
      callWith pos f first (backTo pos (starEach (e :: es) X.env)) (backToKw pos (keywordEach [] X.env))) := by rfl) :
    EM X c (.Call (.Attribute o m apos) (e :: es) [] pos) (methM noex cn m fM dms mo ma) :=
  pe_wk (pe_meth ho cl hm F hr hb hd pass0 ha hst hpl ht) fun σ H Q q => meth_of (E' := E0) (CXc := CX0) hC hd2 (fun W1 _ h1 _ s x v q S1 rs r1 => by
    refine ⟨W1, h1, s, rfl, S1, rs, q.bnd fun W2 h2 xs x2 S2 p2 vs r2 => ?_⟩
    exact ⟨W2, h2, x :: (xs ++ dms), rfl, S2, .cons (r1.mono x2) (r2.append (hd2 W2)), len_ofN hn p2, noex_ok p2⟩) q
/-- o.m() -/
theorem em_meth0 {pl : Sem Bool} (hC : PySem.W.nsIn X.K mainGlobals cn = some (some (.ref C))) (cl : L2.Cls X.K C) (hm : Meth X.K C m f) (F : FnOk X.prog X.w X.K X.mg X.base CX0 k f fd ps (spM X.K X.mg np fM)) (hn : ∀ xs h, (fM xs h).isSome = true → xs.length = np) (hr : Room k X.A) (hb : Binds X.K fd ps ds) (hd : Vals dvs ds)
    (hd2 : ∀ W, RVs X.K W dms dvs) (ho : EM X c o mo)
    (ht : eval (.Call (.Attribute o m apos) [] [] pos) X.env = (do
      let ov ← eval o X.env
      standAt apos.atName
      let (f, first) ← holding [ov] (getMethod ov m pl)
      callWith pos f first (backTo pos (starEach [] X.env)) (backToKw pos (keywordEach [] X.env))) := by rfl) :
    EM X c (.Call (.Attribute o m apos) [] [] pos) (methM noex cn m fM dms mo nilA) :=
  pe_wk (pe_meth0 ho cl hm F hr hb hd pass0 ht) fun σ H Q q => meth_of (E' := E0) (CXc := CX0) hC hd2 (fun W1 _ h1 _ s x v q S1 rs r1 => by
    have q' : Pst X.K c (CV X.K Q) W1 (noex (fM (x :: ([] ++ dms)) h1)) := q
    exact ⟨W1, h1, x :: ([] ++ dms), rfl, S1, .cons r1 (hd2 W1), len_ofN hn q', noex_ok q'⟩) q
/-- .. m may raise, but does not here -/
theorem em_methN {pl : Sem Bool} (hC : PySem.W.nsIn X.K mainGlobals cn = some (some (.ref C))) (cl : L2.Cls X.K C) (hm : Meth X.K C m f) (F : FnOk X.prog X.w X.K X.mg X.base (L2.CX X.prog X.w) k f fd ps (spM X.K X.mg np fM)) (hn : ∀ xs h, (fM xs h).isSome = true → xs.length = np) (hr : Room k X.A) (hb : Binds X.K fd ps ds) (hd : Vals dvs ds)
    (hd2 : ∀ W, RVs X.K W dms dvs) (ho : EM X c o mo) (ha : AM X c (e :: es) ma)
    (hst : starEach (e :: es) X.env = (false, eval e X.env) :: starEach es X.env := by rfl) (hpl : (backTo pos (starEach es X.env)).any (·.1) = false := by rfl)
    (ht : eval (.Call (.Attribute o m apos) (e :: es) [] pos) X.env = (do
      let ov ← eval o X.env
      standAt apos.atName
      let (f, first) ← holding [ov] (getMethod ov m pl)
      callWith pos f first (backTo pos (starEach (e :: es) X.env)) (backToKw pos (keywordEach [] X.env))) := by rfl) :
    EM X c (.Call (.Attribute o m apos) (e :: es) [] pos) (methM noex cn m fM dms mo ma) :=
  pe_wk (pe_meth ho cl hm F hr hb hd passL ha hst hpl ht) fun σ H Q q => meth_of (E' := E0) (CXc := CX0) hC hd2 (fun W1 _ h1 _ s x v q S1 rs r1 => by
    refine ⟨W1, h1, s, rfl, S1, rs, q.bnd fun W2 h2 xs x2 S2 p2 vs r2 => ?_⟩
    exact ⟨W2, h2, x :: (xs ++ dms), rfl, S2, .cons (r1.mono x2) (r2.append (hd2 W2)), len_ofN hn p2, noex_ok p2⟩) q
/-- .. m may raise, but does not here -/
theorem em_methN0 {pl : Sem Bool} (hC : PySem.W.nsIn X.K mainGlobals cn = some (some (.ref C))) (cl : L2.Cls X.K C) (hm : Meth X.K C m f) (F : FnOk X.prog X.w X.K X.mg X.base (L2.CX X.prog X.w) k f fd ps (spM X.K X.mg np fM)) (hn : ∀ xs h, (fM xs h).isSome = true → xs.length = np) (hr : Room k X.A) (hb : Binds X.K fd ps ds) (hd : Vals dvs ds)
    (hd2 : ∀ W, RVs X.K W dms dvs) (ho : EM X c o mo) 
    (ht : eval (.Call (.Attribute o m apos) [] [] pos) X.env = (do
      let ov ← eval o X.env
      standAt apos.atName
      let (f, first) ← holding [ov] (getMethod ov m pl)
      callWith pos f first (backTo pos (starEach [] X.env)) (backToKw pos (keywordEach [] X.env))) := by rfl) :
    EM X c (.Call (.Attribute o m apos) [] [] pos) (methM noex cn m fM dms mo nilA) :=
  pe_wk (pe_meth0 ho cl hm F hr hb hd passL ht) fun σ H Q q => meth_of (E' := E0) (CXc := CX0) hC hd2 (fun W1 _ h1 _ s x v q S1 rs r1 => by
    have q' : Pst X.K c (CV X.K Q) W1 (noex (fM (x :: ([] ++ dms)) h1)) := q
    exact ⟨W1, h1, x :: ([] ++ dms), rfl, S1, .cons r1 (hd2 W1), len_ofN hn q', noex_ok q'⟩) q
/-- .. what it raises goes on -/
theorem em_methX {pl : Sem Bool} (tk : Tk X E) (hC : PySem.W.nsIn X.K mainGlobals cn = some (some (.ref C))) (cl : L2.Cls X.K C) (hm : Meth X.K C m f) (F : FnOk X.prog X.w X.K X.mg X.base (L2.CX X.prog X.w) k f fd ps (spM X.K X.mg np fM)) (hn : ∀ xs h, (fM xs h).isSome = true → xs.length = np) (hr : Room k X.A) (hb : Binds X.K fd ps ds) (hd : Vals dvs ds)
    (hd2 : ∀ W, RVs X.K W dms dvs) (ho : EM X ⟨X.mg, E⟩ o mo) (ha : AM X ⟨X.mg, E⟩ (e :: es) ma)
    (hst : starEach (e :: es) X.env = (false, eval e X.env) :: starEach es X.env := by rfl) (hpl : (backTo pos (starEach es X.env)).any (·.1) = false := by rfl)
    (ht : eval (.Call (.Attribute o m apos) (e :: es) [] pos) X.env = (do
      let ov ← eval o X.env
      standAt apos.atName
      let (f, first) ← holding [ov] (getMethod ov m pl)
      callWith pos f first (backTo pos (starEach (e :: es) X.env)) (backToKw pos (keywordEach [] X.env))) := by rfl) :
    EM X ⟨X.mg, E⟩ (.Call (.Attribute o m apos) (e :: es) [] pos) (methM id cn m fM dms mo ma) :=
  pe_wk (pe_meth ho cl hm F hr hb hd (tk_pass tk) ha hst hpl ht) fun σ H Q q => meth_of (c := ⟨X.mg, E⟩) (E' := E) (CXc := CX0) hC hd2 (fun W1 _ h1 _ s x v q S1 rs r1 => by
    refine ⟨W1, h1, s, rfl, S1, rs, q.bnd fun W2 h2 xs x2 S2 p2 vs r2 => ?_⟩
    have p3 : Pst X.K ⟨X.mg, E⟩ (CV X.K Q) W2 (fM (x :: (xs ++ dms)) h2) := p2
    exact ⟨W2, h2, x :: (xs ++ dms), rfl, S2, .cons (r1.mono x2) (r2.append (hd2 W2)), len_of (r := none) hn p3, p3⟩) q
/-- .. what it raises goes on -/
theorem em_methX0 {pl : Sem Bool} (tk : Tk X E) (hC : PySem.W.nsIn X.K mainGlobals cn = some (some (.ref C))) (cl : L2.Cls X.K C) (hm : Meth X.K C m f) (F : FnOk X.prog X.w X.K X.mg X.base (L2.CX X.prog X.w) k f fd ps (spM X.K X.mg np fM)) (hn : ∀ xs h, (fM xs h).isSome = true → xs.length = np) (hr : Room k X.A) (hb : Binds X.K fd ps ds) (hd : Vals dvs ds)
    (hd2 : ∀ W, RVs X.K W dms dvs) (ho : EM X ⟨X.mg, E⟩ o mo) 
    (ht : eval (.Call (.Attribute o m apos) [] [] pos) X.env = (do
      let ov ← eval o X.env
      standAt apos.atName
      let (f, first) ← holding [ov] (getMethod ov m pl)
      callWith pos f first (backTo pos (starEach [] X.env)) (backToKw pos (keywordEach [] X.env))) := by rfl) :
    EM X ⟨X.mg, E⟩ (.Call (.Attribute o m apos) [] [] pos) (methM id cn m fM dms mo nilA) :=
  pe_wk (pe_meth0 ho cl hm F hr hb hd (tk_pass tk) ht) fun σ H Q q => meth_of (c := ⟨X.mg, E⟩) (E' := E) (CXc := CX0) hC hd2 (fun W1 _ h1 _ s x v q S1 rs r1 => by
    have q' : Pst X.K ⟨X.mg, E⟩ (CV X.K Q) W1 (fM (x :: ([] ++ dms)) h1) := q
    exact ⟨W1, h1, x :: ([] ++ dms), rfl, S1, .cons r1 (hd2 W1), len_of (r := none) hn q', q'⟩) q
/-- C(..) -/
theorem mak_of {W1 : Wd} {h1 : MH} {xs : List MV} {vs : List V} {Q : VK} {mg : Str → Option Value} (hC : PySem.W.nsIn X.K mainGlobals cn = some (some (.ref C))) (hn : ∀ xs h, (fM xs h).isSome = true → xs.length = np) (hd2 : ∀ W, RVs X.K W dms dvs) (S1 : Sim X.K W1 h1) (r1 : RVs X.K W1 xs vs)
    (p : Pst X.K c (CV X.K Q) W1 ((noex (fM (.ref h1.length :: (xs ++ dms)) (h1 ++ [.ins cn []]))).bnd fun y h2 => match y with | .non => ok (.ref h1.length) h2 | _ => none)) :
    ∀ x dx, W1.H x = none → W1.H dx = none → dx ≠ x → spM X.K mg np fM (.ref x :: (vs ++ dvs)) (upd (upd W1.H dx (.own x)) x (.ins C dx [])) (fun v H2 => v = .non ∧ Q (.ref x) H2) E0 := fun x dx nx ndx nex => by
  have S2 : Sim X.K (W1.put dx (.own x)) h1 := S1.put ndx
  have nx2 : (W1.put dx (.own x)).H x = none := by
    show upd W1.H dx (.own x) x = none
    rw [upd_ne nex.symm]
    exact nx
  have S3 : Sim X.K ((W1.put dx (.own x)).add x (.ins C dx [])) (h1 ++ [.ins cn []]) := S2.add nx2 ⟨C, dx, [], hC, upd_same, .nil⟩
  have x3 : Ext W1 ((W1.put dx (.own x)).add x (.ins C dx [])) := (Ext.put S1 ndx).trans (Ext.add S2 nx2)
  have fx : ((W1.put dx (.own x)).add x (.ins C dx [])).f h1.length = some x := by
    show (if h1.length = W1.n then some x else _) = _
    rw [if_pos S1.n.symm]
  have ln : h1.length < ((W1.put dx (.own x)).add x (.ins C dx [])).n := by
    show h1.length < W1.n + 1
    rw [S1.n]
    exact Nat.lt_succ_self _
  have rx : RV X.K ((W1.put dx (.own x)).add x (.ins C dx [])) (.ref h1.length) (.ref x) := .ref ln fun b hb => by
    rw [fx] at hb
    exact (Option.some.inj hb).symm
  have go : Pst X.K ⟨mg, E0⟩ (CV X.K fun v H2 => v = .non ∧ Q (.ref x) H2) ((W1.put dx (.own x)).add x (.ins C dx [])) (fM (.ref h1.length :: (xs ++ dms)) (h1 ++ [.ins cn []])) ∧ (fM (.ref h1.length :: (xs ++ dms)) (h1 ++ [.ins cn []])).isSome = true := by
    cases hf : fM (.ref h1.length :: (xs ++ dms)) (h1 ++ [.ins cn []]) with
    | none =>
      rw [hf] at p
      exact p.elim
    | some o =>
      rw [hf] at p
      cases o with
      | ex e h2 => exact p.elim
      | ok y h2 =>
        refine ⟨?_, rfl⟩
        cases y <;> first | exact p.elim | skip
        intro W2 x2 S4 v rv
        cases rv
        refine ⟨rfl, ?_⟩
        exact p W2 (x3.trans x2) S4 _ (rx.mono x2)
  exact ⟨_, _, _, rfl, S3, .cons rx ((r1.mono x3).append (hd2 _)), hn _ _ go.2, go.1⟩
theorem em_make (hC : PySem.W.nsIn X.K mainGlobals cn = some (some (.ref C))) (M : L2.Mk X.K C f) (F : FnOk X.prog X.w X.K X.mg X.base CX0 k f fd ps (spM X.K X.mg np fM)) (hn : ∀ xs h, (fM xs h).isSome = true → xs.length = np) (hr : Room (k + 1) X.A) (hg : Gl X x) (hm : X.mg x = some (.ref C)) (hb : Binds X.K fd ps ds) (hd : Vals dvs ds)
    (hd2 : ∀ W, RVs X.K W dms dvs) (ha : AM X c (e :: es) ma) (hdb : (x == ("__debug__" : Str)) = false := by decide) (he : starEach (e :: es) X.env = (false, eval e X.env) :: starEach es X.env := by rfl) (hpl : (backTo pos (starEach es X.env)).any (·.1) = false := by rfl) :
    EM X c (.Call (.Name x p) (e :: es) [] pos) (makM noex cn fM dms ma) :=
  pe_wk (pe_make M F hr hg hm hb hd pass0 ha hdb he hpl) fun σ H Q ⟨W, h, s, eW, S, rs, q⟩ => by
    subst eW
    refine ⟨W, h, s, rfl, S, rs, q.bnd fun W1 h1 xs x1 S1 p1 vs r1 => ?_⟩
    exact mak_of hC hn hd2 S1 r1 p1
/-! ### o[i] op= e of a list -/
theorem get_list : PGet X (rIxL X.K) := by
  intro pins s σ H x y v u Q I rx ry h
  obtain ⟨p, xs, i, z, rfl, rfl, hq, he, q⟩ := h
  cases rx
  obtain ⟨t, rfl⟩ := ry
  obtain ⟨its, r, pl, hz⟩ := I.list hq
  obtain ⟨j, h1, h2, h3, h4, h5⟩ := atI_get he
  obtain ⟨w, ew, rw'⟩ := r.get h2
  have hl := r.length
  have hn := line63
  have fin : EP X pins σ Q w s := ⟨z, H, I, rw', q⟩
  by_cases h0 : 0 ≤ i
  · have hj : i.toNat = j := by
      rw [seqIndex_of h0 h5] at h1
      exact Option.some.inj h1
    exact wpAny_getItem_list pl.isList h0 (by omega) (by rw [hj]; simpa using ew) fin
  · have hj : (i + (its.toArray.size : Int)).toNat = j := by
      rw [seqIndex_neg (by omega) h4] at h1
      rw [List.size_toArray, ← hl]
      exact Option.some.inj h1
    exact wpAny_getItem_list_neg pl.isList (by omega) (by rw [List.size_toArray] <;> omega) (by omega) (by rw [hj]; simpa using ew) fin
end
def augSub (f : Int → Int → Int) (mo mi me : ME) : MT := fun s h => bndS (mo s h) fun y h1 => bndS (mi s h1) fun z h2 => match y, z with
  | .ref l, .int j => match h2[l]? with
    | some (.lst xs) => match L2.atI xs j with
      | some (.int a) => bndS (me s h2) fun w h4 => match w with
        | .int b => match wrF l j (.int (f a b)) h4 with
          | some h5 => some (.nx s h5)
          | none => none
        | _ => none
      | _ => none
    | _ => none
  | _, _ => none
section
variable {X : Cx} {c : XC} {e o i : Expr} {pos tpos : Pos}
theorem s_augSub {op : Operator} {f : Int → Int → Int} {mo mi me : ME} (hop : PIp X op (ipI f)) (ho : EM X c o mo) (hi : EM X c i mi) (he : EM X c e me)
    (ha : ∀ ov iv new, augStore i ov iv new = (do holding [new, ov, iv] (setItem ov iv new); release [new, ov, iv] []; pure .next) := by intros; rfl) : SM X c (.AugAssign (.Subscript o i tpos) op e pos) (augSub f mo mi me) :=
  ps_wk (ps_augS ho hi get_list he hop set_list ha) fun D σ H ⟨W, h, s, eW, S, rs, p⟩ => by
    subst eW
    refine ⟨W, h, s, rfl, S, rs, p.bnd fun W1 h1 y x1 S1 p1 v r1 => ?_⟩
    refine ⟨W1, h1, s, rfl, S1, rs.mono x1, p1.bnd fun W2 h2 z x2 S2 p2 u r2 => ?_⟩
    cases y <;> first | exact p2.elim | skip
    rename_i l
    cases z <;> first | exact p2.elim | skip
    rename_i j
    dsimp only at p2
    cases hl : h2[l]? with
    | none =>
      rw [hl] at p2
      exact p2.elim
    | some ob =>
      rw [hl] at p2
      cases ob with
      | dead => exact p2.elim
      | dK kvs => exact p2.elim
      | ins cn fs => exact p2.elim
      | lst xs =>
        dsimp only at p2
        cases hx : L2.atI xs j with
        | none =>
          rw [hx] at p2
          exact p2.elim
        | some q =>
          rw [hx] at p2
          cases q <;> first | exact p2.elim | skip
          rename_i a
          dsimp only at p2
          obtain ⟨ad, vs, ev, e2, e3, t⟩ := S2.lstAt hl (r1.mono x2)
          obtain ⟨w0, hw0, rw0⟩ := t.atI hx
          refine ⟨ad, vs, j, w0, ev, rv_int r2, .inl (.inl e3), hw0, ?_⟩
          refine ⟨W2, h2, s, rfl, S2, (rs.mono x1).mono x2, p2.bnd fun W3 h3 w x3 S3 p3 b r3 => ?_⟩
          cases w <;> first | exact p3.elim | skip
          rename_i b'
          dsimp only at p3
          refine ⟨a, b', rv_int rw0, rv_int r3, ?_⟩
          cases q : wrF l j (.int (f a b')) h3 with
          | none =>
            rw [q] at p3
            exact p3.elim
          | some h4 =>
            rw [q] at p3
            rw [rv_int r2]
            exact wrF_ok S3 ((r1.mono x2).mono x3) (.int _) q fun W4 x4 S4 => p3 W4 σ x4 S4 (((rs.mono x1).mono x2).mono (x3.trans x4))
end
end Mi
set_option maxHeartbeats 4000000
/-! Mi: targets within targets; x, y = a, b. -/
namespace Mi
open PySem L2
abbrev MG := MV → MS → Option MS
def allG : List MG → List MV → MS → Option MS
  | [], [], s => some s
  | g :: gs, x :: xs, s => match g x s with
    | some s1 => allG gs xs s1
    | none => none
  | _, _, _ => none
@[simp ↓] def unpN (gs : List MG) (x : MV) (s : MS) : Option MS := match x with
  | .tup xs => allG gs xs s
  | _ => none
section
variable {K : PySem.W.Frag}
theorem allG_len : ∀ {gs : List MG} {xs : List MV} {s s' : MS}, allG gs xs s = some s' → xs.length = gs.length
  | [], [], _, _, _ => rfl
  | [], _ :: _, _, _, e => by cases e
  | _ :: _, [], _, _, e => by cases e
  | g :: gs, x :: xs, s, s', e => by
    have e' : (match g x s with | some s1 => allG gs xs s1 | none => none) = some s' := e
    cases hg : g x s with
    | none =>
      rw [hg] at e'
      cases e'
    | some s1 =>
      rw [hg] at e'
      rw [List.length_cons, List.length_cons, allG_len e']
def TgsM (K : PySem.W.Frag) (u : TGs) (gs : List MG) : Prop := ∀ (W : Wd) (s s' : MS) (σ : St) (xs : List MV) (vs : List V) (Q : St → Hp → Prop), RS K W s σ → RVs K W xs vs → allG gs xs s = some s' → (∀ σ', RS K W s' σ' → Q σ' W.H) → u vs σ W.H Q
theorem tgs_nil : TgsM K gNil [] := fun W s s' σ xs vs Q rs r e q => by
  cases xs with
  | nil =>
    cases e
    cases r
    exact ⟨rfl, q σ rs⟩
  | cons x xs => cases e
theorem tgs_cons {t : TG} {u : TGs} {g : MG} {gs : List MG} (h1 : TgM K t g) (h2 : TgsM K u gs) : TgsM K (gCons t u) (g :: gs) := fun W s s' σ xs vs Q rs r e q => by
  cases xs with
  | nil => cases e
  | cons x xs =>
    have e' : (match g x s with | some s1 => allG gs xs s1 | none => none) = some s' := e
    cases r with
    | cons r1 r2 =>
      cases hg : g x s with
      | none =>
        rw [hg] at e'
        cases e'
      | some s1 =>
        rw [hg] at e'
        exact ⟨_, _, rfl, h1 W s s1 σ x _ _ rs r1 hg fun σ1 rs1 => h2 W s1 s' σ1 xs _ _ rs1 r2 e' q⟩
theorem tg_tupN {u : TGs} {gs : List MG} (h : TgsM K u gs) : TgM K (gTup K gs.length u) (unpN gs) := fun W s s' σ x v Q rs r e q => by
  cases x <;> first | (cases e; done) | skip
  rename_i xs
  obtain ⟨a, vs, rfl, hq, t⟩ := tup_sq r
  exact ⟨a, vs, rfl, hq, by rw [← t.length]; exact allG_len e, h W s s' σ xs vs Q rs t e q⟩
def TgsC (K : PySem.W.Frag) (u : TGs) (gs : List MG) (ws : List Nat) : Prop := ∀ (W : Wd) (s s' : MS) (σ : St) (xs : List MV) (vs : List V) (Q : St → Hp → Prop), RS K W s σ → RVs K W xs vs → allG gs xs s = some s' → (∀ σ', RS K W s' σ' → L2.wipe σ' ws = L2.wipe σ ws → Q σ' W.H) → u vs σ W.H Q
theorem tcs_nil {ws : List Nat} : TgsC K gNil [] ws := fun W s s' σ xs vs Q rs r e q => by
  cases xs with
  | nil =>
    cases e
    cases r
    exact ⟨rfl, q σ rs rfl⟩
  | cons x xs => cases e
theorem tcs_cons {t : TG} {u : TGs} {g : MG} {gs : List MG} {ws : List Nat} (h1 : TgC K t g ws) (h2 : TgsC K u gs ws) : TgsC K (gCons t u) (g :: gs) ws := fun W s s' σ xs vs Q rs r e q => by
  cases xs with
  | nil => cases e
  | cons x xs =>
    have e' : (match g x s with | some s1 => allG gs xs s1 | none => none) = some s' := e
    cases r with
    | cons r1 r2 =>
      cases hg : g x s with
      | none =>
        rw [hg] at e'
        cases e'
      | some s1 =>
        rw [hg] at e'
        exact ⟨_, _, rfl, h1 W s s1 σ x _ _ rs r1 hg fun σ1 rs1 w1 => h2 W s1 s' σ1 xs _ _ rs1 r2 e' fun σ2 rs2 w2 => q σ2 rs2 (w2.trans w1)⟩
theorem tc_tupN {u : TGs} {gs : List MG} {ws : List Nat} (h : TgsC K u gs ws) : TgC K (gTup K gs.length u) (unpN gs) ws := fun W s s' σ x v Q rs r e q => by
  cases x <;> first | (cases e; done) | skip
  rename_i xs
  obtain ⟨a, vs, rfl, hq, t⟩ := tup_sq r
  exact ⟨a, vs, rfl, hq, by rw [← t.length]; exact allG_len e, h W s s' σ xs vs Q rs t e q⟩
end
@[simp ↓] def parS (i j : Nat) (a : MM (List MV)) : MT := fun s h => bndS (a s h) fun xs h1 => match xs with
  | [x, y] => some (.nx ((s.set i (some x)).set j (some y)) h1)
  | _ => none
@[simp ↓] def parS3 (i j l : Nat) (a : MM (List MV)) : MT := fun s h => bndS (a s h) fun xs h1 => match xs with
  | [x, y, z] => some (.nx (((s.set i (some x)).set j (some y)).set l (some z)) h1)
  | _ => none
section
variable {X : Cx} {c : XC} {pos : Pos} {a b d : Expr} {px py pz pt : Pos} {kt : _} {k2 : _} {pt2 : _} {x y z : Str} {i j l : Nat} {m : MM (List MV)}
theorem s_par (hc : X.calm = true) (hN : X.N.Nodup) (hi : X.N[i]? = some x) (hj : X.N[j]? = some y) (hij : i ≠ j)
    (hx : X.env.scope.names.lookup x = some .local) (hy : X.env.scope.names.lookup y = some .local) (ha : AM X c [a, b] m)
    (hw : swappedStores [.Tuple [.Name x px, .Name y py] kt pt] (.Tuple [a, b] k2 pt2) X.env = pure (some [x, y]))
    (hs : swapsWithSole [.Tuple [.Name x px, .Name y py] kt pt] (.Tuple [a, b] k2 pt2) pos.line X.env = pure false := by rfl) :
    SM X c (.Assign [.Tuple [.Name x px, .Name y py] kt pt] (.Tuple [a, b] k2 pt2) pos) (parS i j m) := ps_wk (ps_par hc hN hi hj hij hx hy ha hw hs) fun D σ H ⟨W, h, s, eW, S, rs, p⟩ => by
  subst eW
  refine ⟨W, h, s, rfl, S, rs, p.bnd fun W1 h1 xs x1 S1 p1 vs r1 => ?_⟩
  match xs, vs, r1, p1 with
  | [_, _], _, .cons ra (.cons rb .nil), p1 => exact ⟨_, _, rfl, p1 W1 _ (Ext.refl _) S1 (((rs.mono x1).set ra i).set rb j)⟩
  | [], _, _, p1 => exact p1.elim
  | [_], _, _, p1 => exact p1.elim
  | _ :: _ :: _ :: _, _, _, p1 => exact p1.elim
theorem s_par3 (hc : X.calm = true) (hN : X.N.Nodup) (hi : X.N[i]? = some x) (hj : X.N[j]? = some y) (hl : X.N[l]? = some z) (hij : i ≠ j) (hil : i ≠ l) (hjl : j ≠ l)
    (hx : X.env.scope.names.lookup x = some .local) (hy : X.env.scope.names.lookup y = some .local) (hz : X.env.scope.names.lookup z = some .local) (ha : AM X c [a, b, d] m)
    (hw : swappedStores [.Tuple [.Name x px, .Name y py, .Name z pz] kt pt] (.Tuple [a, b, d] k2 pt2) X.env = pure (some [x, y, z]))
    (hs : swapsWithSole [.Tuple [.Name x px, .Name y py, .Name z pz] kt pt] (.Tuple [a, b, d] k2 pt2) pos.line X.env = pure false := by rfl) :
    SM X c (.Assign [.Tuple [.Name x px, .Name y py, .Name z pz] kt pt] (.Tuple [a, b, d] k2 pt2) pos) (parS3 i j l m) := ps_wk (ps_par3 hc hN hi hj hl hij hil hjl hx hy hz ha hw hs) fun D σ H ⟨W, h, s, eW, S, rs, p⟩ => by
  subst eW
  refine ⟨W, h, s, rfl, S, rs, p.bnd fun W1 h1 xs x1 S1 p1 vs r1 => ?_⟩
  match xs, vs, r1, p1 with
  | [_, _, _], _, .cons ra (.cons rb (.cons rd .nil)), p1 => exact ⟨_, _, _, rfl, p1 W1 _ (Ext.refl _) S1 ((((rs.mono x1).set ra i).set rb j).set rd l)⟩
  | [], _, _, p1 => exact p1.elim
  | [_], _, _, p1 => exact p1.elim
  | [_, _], _, _, p1 => exact p1.elim
  | _ :: _ :: _ :: _ :: _, _, _, p1 => exact p1.elim
end
/-! ### range with a step -/
def runC (a c : Int) (n : Nat) : List MV := (List.range n).map fun (i : Nat) => MV.int (a + (i : Int) * c)
theorem runC_len {a c : Int} {n : Nat} : (runC a c n).length = n := by simp [runC]
theorem runC_get {a c : Int} {n i : Nat} {y : MV} (h : (runC a c n)[i]? = some y) : i < n ∧ y = .int (a + (i : Int) * c) := by
  unfold runC at h
  rw [List.getElem?_map] at h
  by_cases q : i < n
  · rw [List.getElem?_range q] at h
    cases h
    exact ⟨q, rfl⟩
  · rw [List.getElem?_eq_none (by simpa using q)] at h
    cases h
@[simp ↓] def rng3F (xs : List MV) (h : MH) : Res MIter := match xs with
  | [.int i, .int j, .int c] => if c ≠ 0 ∧ c.natAbs < 1073741824 ∧ Builtin.Range.small i j c = true ∧ 0 ≤ Builtin.Range.rangeSize i j c then ok (.st (runC i c (Builtin.Range.rangeSize i j c).toNat)) h else none
  | _ => none
@[simp ↓] def rng3 (m : MM (List MV)) : MM MIter := fun s h => (m s h).bnd rng3F
theorem rng3_down {i j : Int} {h : MH} (h1 : -1000000 ≤ i) (h2 : i ≤ 1000000) (h3 : -1000000 ≤ j) (h4 : j ≤ 1000000) : rng3F [.int i, .int j, .int (-1)] h = ok (.st (runC i (-1) (i - j).toNat)) h := by
  show (if (-1 : Int) ≠ 0 ∧ (-1 : Int).natAbs < 1073741824 ∧ Builtin.Range.small i j (-1) = true ∧ 0 ≤ Builtin.Range.rangeSize i j (-1) then ok (MIter.st (runC i (-1) (Builtin.Range.rangeSize i j (-1)).toNat)) h else none) = _
  rw [if_pos ⟨by decide, by decide, PySem.W.small_down (by omega) (by omega) (by omega) (by omega), by rw [PySem.W.rangeSize_downNat]; exact Int.natCast_nonneg _⟩, PySem.W.rangeSize_downNat, Int.toNat_natCast]
section
variable {X : Cx} {c : XC} {tg a b d : Expr} {K : PySem.W.Frag} {W : Wd} {p pos : Pos} {m : MM (List MV)}
theorem jr_rngC {a c : Int} {n : Nat} : JR K W (.st (runC a c n)) (Itc a c n) := fun i W' h' x' S' => by
  refine ⟨fun y hy => ?_, fun hi => by rw [runC_len] at hi; exact hi⟩
  obtain ⟨h1, h2⟩ := runC_get hy
  subst h2
  exact ⟨h1, fun v H2 ⟨eh, ev⟩ => ⟨W', eh.symm, Ext.refl _, S', by rw [ev]; exact .int _⟩⟩
theorem im_rng3 (hg : Gl X "range") (hm : X.mg "range" = none) (ha : AM X c [a, b, d] m) (hs : starEach [a, b, d] X.env = (false, eval a X.env) :: starEach [b, d] X.env := by rfl) (hpl : (backTo pos (starEach [b, d] X.env)).any (·.1) = false := by rfl) :
    IM X c tg (.Call (.Name "range" p) [a, b, d] [] pos) (rng3 m) :=
  pi_wk (pi_range3 hg hm ha hs hpl) fun σ H R ⟨W, h, s, e, S, rs, q⟩ => by
    subst e
    refine ⟨W, h, s, rfl, S, rs, q.bnd fun W1 h1 xs x1 S1 p1 vs r1 => ?_⟩
    unfold rng3F at p1
    split at p1
    · rename_i i j k
      by_cases z : k ≠ 0 ∧ k.natAbs < 1073741824 ∧ Builtin.Range.small i j k = true ∧ 0 ≤ Builtin.Range.rangeSize i j k
      · rw [if_pos z] at p1
        cases r1 with
        | cons ra t =>
          cases t with
          | cons rb t =>
            cases t with
            | cons rd t =>
              cases t
              refine ⟨i, j, k, _, by rw [rv_int ra, rv_int rb, rv_int rd], ⟨z.1, z.2.1, z.2.2.1, (Int.toNat_of_nonneg z.2.2.2).symm⟩, ?_⟩
              exact (Pst.now p1 S1) _ jr_rngC
      · rw [if_neg z] at p1
        exact p1.elim
    · exact p1.elim
end
end Mi
set_option maxHeartbeats 4000000
/-! Mi: {} and d[k] = v. -/
namespace Mi
open PySem L2
@[simp ↓] def dnewM : ME := fun _ h => ok (.ref h.length) (h ++ [.dK []])
@[simp ↓] def dputS (mv mo mi : ME) : MT := fun s h => bndS (mv s h) fun x h1 => bndS (mo s h1) fun y h2 => bndS (mi s h2) fun z h3 => match y with
  | .ref l => match h3[l]?, keyOf z with
    | some (.dK kvs), some k => if kvs.length < lim then some (.nx s (h3.set l (.dK (putM kvs k x)))) else none
    | _, _ => none
  | _ => none
section
variable {X : Cx} {c : XC} {K : PySem.W.Frag} {W : Wd} {o i value : Expr} {pos pos' : Pos} {mv mo mi : ME}
theorem em_dnew : EM X c (.Dict [] [] pos) dnewM := pe_wk pe_dnewK fun σ H Q ⟨W, h, s, eW, S, rs, p⟩ D hD => by
  subst eW
  have S2 : Sim X.K (W.add D (.dK [])) (h ++ [.dK []]) := S.add hD ⟨[], upd_same, .nil⟩
  have p' : Pst X.K c (CV X.K Q) W (ok (.ref h.length) (h ++ [.dK []])) := p
  refine p' (W.add D (.dK [])) (Ext.add S hD) S2 (.ref D) (.ref ?_ fun b hb => ?_)
  · show h.length < W.n + 1
    rw [S.n]
    exact Nat.lt_succ_self _
  · have hb' : (if h.length = W.n then some D else W.f h.length) = some b := hb
    rw [if_pos S.n.symm] at hb'
    exact (Option.some.inj hb').symm
theorem s_dput (hu : X.A.units + 64 < cLine) (ho : EM X c o mo) (hi : EM X c i mi) (hv : EM X c value mv) (hs : swapsWith value (some (.Subscript o i pos')) pos.line X.env = pure false := by rfl) : SM X c (.Assign [.Subscript o i pos'] value pos) (dputS mv mo mi) :=
  ps_wk (ps_dput (by omega) ho hi hv hs) fun D σ H ⟨W, h, s, eW, S, rs, p⟩ => by
    subst eW
    refine ⟨W, h, s, rfl, S, rs, p.bnd fun W1 h1 x x1 S1 p1 v r1 => ?_⟩
    refine ⟨W1, h1, s, rfl, S1, rs.mono x1, p1.bnd fun W2 h2 y x2 S2 p2 u r2 => ?_⟩
    refine ⟨W2, h2, s, rfl, S2, (rs.mono x1).mono x2, p2.bnd fun W3 h3 z x3 S3 p3 w r3 => ?_⟩
    cases y <;> first | exact p3.elim | skip
    rename_i l
    dsimp only at p3
    cases hl : h3[l]? with
    | none =>
      rw [hl] at p3
      exact p3.elim
    | some ob =>
      rw [hl] at p3
      cases ob with
      | dead => exact p3.elim
      | lst xs => exact p3.elim
      | ins cn fs => exact p3.elim
      | dK kvs =>
        cases hk : keyOf z with
        | none =>
          rw [hk] at p3
          exact p3.elim
        | some k =>
          rw [hk] at p3
          dsimp only at p3
          by_cases hlm : kvs.length < lim
          · rw [if_pos hlm] at p3
            obtain ⟨a, kws, ea, e2, e3, t⟩ := S3.dictAt hl (r2.mono x3)
            refine ⟨a, upd W3.H a (.dK (putK kws k v)), ea, ?_, ?_⟩
            · rw [key_V r3 hk]
              exact DPut.k e3 (Nat.lt_of_lt_of_le (by rw [← t.length]; exact hlm) (lim_line (Nat.le_refl _)))
            · exact p3 (W3.wr a (.dK (putK kws k v))) σ (Ext.wr S3 e2) (S3.wr e2 ⟨_, upd_same, (t.put ((r1.mono x2).mono x3)).mono (Ext.wr S3 e2)⟩) ((((rs.mono x1).mono x2).mono x3).mono (Ext.wr S3 e2))
          · rw [if_neg hlm] at p3
            exact p3.elim
end
/-! ### is True, is not True -/
def rIsT : R2 := fun x y H Q => ∃ b : Bool, y = .bl b ∧ (∀ n, x ≠ .ty n) ∧ Q (.bl (decide (x = .bl b))) H
def rNotT : R2 := fun x y H Q => ∃ b : Bool, y = .bl b ∧ (∀ n, x ≠ .ty n) ∧ Q (.bl (!decide (x = .bl b))) H
section
variable {X : Cx}
theorem op_isT : OpR X (compareOp .Is) rIsT := by
  intro pins s σ H x y v u Q I rx ry h
  obtain ⟨b, rfl, nt, q⟩ := h
  cases (show u = Value.bool b from ry)
  by_cases e : x = .bl b
  · subst e
    cases (show v = Value.bool b from rx)
    exact wpAny_is_self rfl ⟨.bl true, H, I, rfl, by simpa using q⟩
  · refine wpAny_is_other ?_ ?_ ⟨.bl false, H, I, rfl, by simpa [e] using q⟩
    · cases x <;> first | (cases rx; rfl) | (obtain ⟨t, rfl⟩ := rx; rfl)
    · intro z
      subst z
      cases x <;> first | (cases rx; done) | (obtain ⟨t, z⟩ := rx; cases z; done) | skip
      cases (show Value.bool b = Value.bool _ from rx)
      exact e rfl
theorem op_notT : OpR X (compareOp .IsNot) rNotT := by
  intro pins s σ H x y v u Q I rx ry h
  obtain ⟨b, rfl, nt, q⟩ := h
  cases (show u = Value.bool b from ry)
  by_cases e : x = .bl b
  · subst e
    cases (show v = Value.bool b from rx)
    exact wpAny_isNot_self rfl ⟨.bl false, H, I, rfl, by simpa using q⟩
  · refine wpAny_isNot_other ?_ ?_ ⟨.bl true, H, I, rfl, by simpa [e] using q⟩
    · cases x <;> first | (cases rx; rfl) | (obtain ⟨t, rfl⟩ := rx; rfl)
    · intro z
      subst z
      cases x <;> first | (cases rx; done) | (obtain ⟨t, z⟩ := rx; cases z; done) | skip
      cases (show Value.bool b = Value.bool _ from rx)
      exact e rfl
end
@[simp ↓] def isbF (x y : MV) (h : MH) : Res MV := match y with
  | .bl b => match x with
    | .bl a => ok (.bl (decide (a = b))) h
    | _ => ok (.bl false) h
  | _ => none
@[simp ↓] def nobF (x y : MV) (h : MH) : Res MV := match y with
  | .bl b => match x with
    | .bl a => ok (.bl (!decide (a = b))) h
    | _ => ok (.bl true) h
  | _ => none
section
variable {c : XC} {K : PySem.W.Frag}
theorem rv_bool {W : Wd} {x : MV} {u : V} {b : Bool} (r : RV K W x u) : (u = .bl b ↔ x = .bl b) ∧ ∀ n, u ≠ .ty n := by
  cases r <;> refine ⟨⟨fun z => ?_, fun z => ?_⟩, fun n z => ?_⟩ <;> first | (cases z; done) | (cases z; rfl)
theorem opm_isb : OpM K c rIsT isbF := fun W h x y u v Q S r1 r2 p => by
  cases y <;> first | exact p.elim | skip
  rename_i b
  refine ⟨b, rv_bl r2, (rv_bool (b := b) r1).2, ?_⟩
  have e : (decide (u = .bl b)) = (match x with | .bl a => decide (a = b) | _ => false) := by
    rw [Bool.eq_iff_iff, decide_eq_true_iff, (rv_bool (b := b) r1).1]
    cases x <;> simp
  rw [e]
  cases x <;> exact p.now S _ (.bl _)
theorem opm_nob : OpM K c rNotT nobF := fun W h x y u v Q S r1 r2 p => by
  cases y <;> first | exact p.elim | skip
  rename_i b
  refine ⟨b, rv_bl r2, (rv_bool (b := b) r1).2, ?_⟩
  have e : (!decide (u = .bl b)) = (match x with | .bl a => !decide (a = b) | _ => true) := by
    have : (decide (u = .bl b)) = (match x with | .bl a => decide (a = b) | _ => false) := by
      rw [Bool.eq_iff_iff, decide_eq_true_iff, (rv_bool (b := b) r1).1]
      cases x <;> simp
    rw [this]
    cases x <;> rfl
  rw [e]
  cases x <;> exact p.now S _ (.bl _)
end
end Mi
set_option maxHeartbeats 2000000
/-! Mi: one rule for each combinator: how a mirror computes, step by step. -/
namespace Mi
open PySem L2
section
variable {s : MS} {h h1 h2 h3 : MH} {a b d m el : ME} {x y z : MV} {xs ys : List MV} {i n : Nat}
theorem r_var (e : slot s i = some x) : varM i s h = ok x h := by
  unfold varM
  rw [e]
  rfl
theorem r_op {f : MV → MV → MH → Res MV} (e1 : a s h = ok x h1) (e2 : b s h1 = ok y h2) (e3 : f x y h2 = ok z h3) : opM f a b s h = ok z h3 := by
  unfold opM
  rw [e1, bnd_ok, e2, bnd_ok, e3]
theorem r_un {f : MV → MH → Res MV} (e1 : a s h = ok x h1) (e3 : f x h1 = ok z h2) : unM f a s h = ok z h2 := by
  unfold unM
  rw [e1, bnd_ok, e3]
theorem r_nil : nilA s h = ok [] h := rfl
theorem r_blt {f : List MV → MH → Res MV} {l : MM (List MV)} (e : l s h = ok xs h1) (e2 : f xs h1 = ok y h2) : bltM f l s h = ok y h2 := by
  unfold bltM
  rw [e]
  exact e2
theorem r_fls {l : MM (List MV)} (e : l s h = ok xs h1) : flsM l s h = ok (.fls xs) h1 := by
  unfold flsM
  rw [e]
  rfl
theorem r_ref {l : MM (List MV)} (e : l s h = ok xs h1) : refM l s h = ok (.ref h1.length) (h1 ++ [.lst xs]) := by
  unfold refM
  rw [e]
  rfl
theorem r_lst {l : MM (List MV)} (e : l s h = ok xs h1) (hl : xs.length ≤ 400000) : lstM l s h = ok xs h1 := by
  unfold lstM
  rw [e, bnd_ok, if_pos (by unfold lim; omega)]
theorem r_cat (e : a s h = ok (.fls xs) h1) (e2 : b s h1 = ok (.fls ys) h2) (hl : xs.length + ys.length ≤ 400000) : catL a b s h = ok (xs ++ ys) h2 := by
  unfold catL
  rw [e, bnd_ok, e2, bnd_ok]
  show (if xs.length + ys.length ≤ lim then ok (xs ++ ys) h2 else none) = _
  rw [if_pos (by unfold lim; omega)]
theorem r_rep (e : a s h = ok (.fls xs) h1) (e2 : b s h1 = ok (nV n) h2) (hl : xs.length * n ≤ 400000) (hn : n ≤ 400000) : repL a b s h = ok (List.replicate n xs).flatten h2 := by
  unfold repL
  rw [e, bnd_ok, e2, bnd_ok]
  show (if ((n : Int) ≤ 1000000 ∧ -1000000 ≤ (n : Int)) ∧ xs.length * ((n : Int)).toNat ≤ lim then ok (List.replicate ((n : Int)).toNat xs).flatten h2 else none) = _
  rw [Int.toNat_natCast, if_pos ⟨⟨by omega, by omega⟩, by unfold lim; omega⟩]
theorem r_ix (e1 : a s h = ok (.fls xs) h1) (e2 : b s h1 = ok (nV i) h2) (e3 : xs[i]? = some x) : opM ixF a b s h = ok x h2 := r_op e1 e2 (by simp [atI_n, e3])
theorem r_ixt (e1 : a s h = ok (.tup xs) h1) (e2 : b s h1 = ok (nV i) h2) (e3 : xs[i]? = some x) : opM ixF a b s h = ok x h2 := r_op e1 e2 (by simp [atI_n, e3])
theorem r_ixr {l : Nat} (e1 : a s h = ok (.ref l) h1) (e2 : b s h1 = ok (nV i) h2) (e0 : h2[l]? = some (.lst xs)) (e3 : xs[i]? = some x) : opM ixF a b s h = ok x h2 := r_op e1 e2 (by simp [atI_n, e0, e3])
theorem r_len (e1 : a s h = ok (.fls xs) h1) : bltM lenF (consA a nilA) s h = ok (nV xs.length) h1 := r_blt (consA_ok e1 r_nil) rfl
theorem r_lent (e1 : a s h = ok (.tup xs) h1) : bltM lenF (consA a nilA) s h = ok (nV xs.length) h1 := r_blt (consA_ok e1 r_nil) rfl
theorem r_lenr {l : Nat} (e1 : a s h = ok (.ref l) h1) (e0 : h1[l]? = some (.lst xs)) : bltM lenF (consA a nilA) s h = ok (nV xs.length) h1 := r_blt (consA_ok e1 r_nil) (by simp [e0])
theorem r_tupf (e1 : a s h = ok (.fls xs) h1) : bltM tupF (consA a nilA) s h = ok (.tup xs) h1 := r_blt (consA_ok e1 r_nil) rfl
theorem r_tupt (e1 : a s h = ok (.tup xs) h1) : bltM tupF (consA a nilA) s h = ok (.tup xs) h1 := r_blt (consA_ok e1 r_nil) rfl
theorem r_tupr {l : Nat} (e1 : a s h = ok (.ref l) h1) (e0 : h1[l]? = some (.lst xs)) : bltM tupF (consA a nilA) s h = ok (.tup xs) h1 := r_blt (consA_ok e1 r_nil) (by simp [e0])
theorem r_add {i j : Nat} (e1 : a s h = ok (nV i) h1) (e2 : b s h1 = ok (nV j) h2) : opM addF a b s h = ok (nV (i + j)) h2 := r_op e1 e2 (by
  show ok (MV.int ((i : Int) + (j : Int))) h2 = ok (MV.int ((i + j : Nat) : Int)) h2
  rw [Int.natCast_add])
theorem r_mul {i j : Nat} (e1 : a s h = ok (nV i) h1) (e2 : b s h1 = ok (nV j) h2) (hi : i ≤ 1000000) : opM mulF a b s h = ok (nV (i * j)) h2 := r_op e1 e2 (by
  show (if mulOk (i : Int) (j : Int) then ok (MV.int ((i : Int) * (j : Int))) h2 else none) = ok (MV.int ((i * j : Nat) : Int)) h2
  rw [if_pos (.inl ⟨by omega, by omega⟩), Int.natCast_mul])
theorem r_sub {i j : Nat} (e1 : a s h = ok (nV i) h1) (e2 : b s h1 = ok (nV j) h2) (hij : j ≤ i) : opM subF a b s h = ok (nV (i - j)) h2 := r_op e1 e2 (by
  show ok (MV.int ((i : Int) - (j : Int))) h2 = ok (MV.int ((i - j : Nat) : Int)) h2
  rw [Int.ofNat_sub hij])
theorem r_mod {i j : Nat} (e1 : a s h = ok (nV i) h1) (e2 : b s h1 = ok (nV j) h2) (hj : 0 < j) : opM modF a b s h = ok (nV (i % j)) h2 := r_op e1 e2 (by
  show (if 0 < (j : Int) then ok (MV.int ((i : Int) % (j : Int))) h2 else none) = ok (MV.int ((i % j : Nat) : Int)) h2
  rw [if_pos (by omega), Int.natCast_emod])
theorem r_div {i j : Nat} (e1 : a s h = ok (nV i) h1) (e2 : b s h1 = ok (nV j) h2) (hj : 0 < j) (hj2 : j < 1000000) : opM divF a b s h = ok (nV (i / j)) h2 := r_op e1 e2 (by
  show (if 0 < (j : Int) ∧ (j : Int) < 1073741824 then ok (MV.int ((i : Int) / (j : Int))) h2 else none) = ok (MV.int ((i / j : Nat) : Int)) h2
  rw [if_pos (by omega), Int.natCast_ediv])
theorem r_eq {i j : Nat} (e1 : a s h = ok (nV i) h1) (e2 : b s h1 = ok (nV j) h2) : opM eqF a b s h = ok (.bl (decide (i = j))) h2 := r_op e1 e2 (by
  show ok (MV.bl (decide ((i : Int) = (j : Int)))) h2 = _
  rw [show decide ((i : Int) = (j : Int)) = decide (i = j) from (by (rw [decide_eq_decide]; omega))])
theorem r_ne {i j : Nat} (e1 : a s h = ok (nV i) h1) (e2 : b s h1 = ok (nV j) h2) : opM neF a b s h = ok (.bl (!decide (i = j))) h2 := r_op e1 e2 (by
  show ok (MV.bl (!decide ((i : Int) = (j : Int)))) h2 = _
  rw [show decide ((i : Int) = (j : Int)) = decide (i = j) from (by (rw [decide_eq_decide]; omega))])
theorem r_lt {i j : Nat} (e1 : a s h = ok (nV i) h1) (e2 : b s h1 = ok (nV j) h2) : opM ltF a b s h = ok (.bl (decide (i < j))) h2 := r_op e1 e2 (by
  show ok (MV.bl (decide ((i : Int) < (j : Int)))) h2 = _
  rw [show decide ((i : Int) < (j : Int)) = decide (i < j) from (by (rw [decide_eq_decide]; omega))])
theorem r_le {i j : Nat} (e1 : a s h = ok (nV i) h1) (e2 : b s h1 = ok (nV j) h2) : opM leF a b s h = ok (.bl (decide (i ≤ j))) h2 := r_op e1 e2 (by
  show ok (MV.bl (decide ((i : Int) ≤ (j : Int)))) h2 = _
  rw [show decide ((i : Int) ≤ (j : Int)) = decide (i ≤ j) from (by (rw [decide_eq_decide]; omega))])
theorem r_gt {i j : Nat} (e1 : a s h = ok (nV i) h1) (e2 : b s h1 = ok (nV j) h2) : opM gtF a b s h = ok (.bl (decide (j < i))) h2 := r_op e1 e2 (by
  show ok (MV.bl (decide ((j : Int) < (i : Int)))) h2 = _
  rw [show decide ((j : Int) < (i : Int)) = decide (j < i) from (by (rw [decide_eq_decide]; omega))])
theorem r_ge {i j : Nat} (e1 : a s h = ok (nV i) h1) (e2 : b s h1 = ok (nV j) h2) : opM geF a b s h = ok (.bl (decide (j ≤ i))) h2 := r_op e1 e2 (by
  show ok (MV.bl (decide ((j : Int) ≤ (i : Int)))) h2 = _
  rw [show decide ((j : Int) ≤ (i : Int)) = decide (j ≤ i) from (by (rw [decide_eq_decide]; omega))])
theorem r_eqs {i j : Str} (e1 : a s h = ok (.str i) h1) (e2 : b s h1 = ok (.str j) h2) : opM eqF a b s h = ok (.bl (decide (i = j))) h2 := r_op e1 e2 rfl
theorem r_eqb {i j : Bool} (e1 : a s h = ok (.bl i) h1) (e2 : b s h1 = ok (.bl j) h2) : opM eqF a b s h = ok (.bl (decide (i = j))) h2 := r_op e1 e2 rfl
theorem r_eqi {i j : Int} (e1 : a s h = ok (.int i) h1) (e2 : b s h1 = ok (.int j) h2) : opM eqF a b s h = ok (.bl (decide (i = j))) h2 := r_op e1 e2 rfl
theorem r_tst {p : Bool} (e : a s h = ok (.bl p) h1) : tstM a s h = ok p h1 := by
  unfold tstM
  rw [e]
  rfl
theorem r_tru {p : Bool} (e : a s h = ok (.bl p) h1) : truM a s h = ok p h1 := by
  unfold truM
  rw [e]
  rfl
theorem r_not {t : MM Bool} {p : Bool} (e : t s h = ok p h1) : notT t s h = ok (!p) h1 := by
  unfold notT
  rw [e]
  rfl
theorem r_and {t u : MM Bool} {p q : Bool} (e : t s h = ok p h1) (e2 : p = true → u s h1 = ok q h1) : andT t u s h = ok (p && q) h1 := by
  unfold andT
  rw [e, bnd_ok]
  cases p with
  | true => exact e2 rfl
  | false => rfl
theorem r_or {t u : MM Bool} {p q : Bool} (e : t s h = ok p h1) (e2 : p = false → u s h1 = ok q h1) : orT t u s h = ok (p || q) h1 := by
  unfold orT
  rw [e, bnd_ok]
  cases p with
  | true => rfl
  | false => exact e2 rfl
theorem r_and_t {t u : MM Bool} {q : Bool} (e : t s h = ok true h1) (e2 : u s h1 = ok q h2) : andT t u s h = ok q h2 := by
  unfold andT
  rw [e, bnd_ok, if_pos rfl, e2]
theorem r_and_f {t u : MM Bool} (e : t s h = ok false h1) : andT t u s h = ok false h1 := by
  unfold andT
  rw [e, bnd_ok, if_neg Bool.false_ne_true]
theorem r_or_f {t u : MM Bool} {q : Bool} (e : t s h = ok false h1) (e2 : u s h1 = ok q h2) : orT t u s h = ok q h2 := by
  unfold orT
  rw [e, bnd_ok, if_neg Bool.false_ne_true, e2]
theorem r_or_t {t u : MM Bool} (e : t s h = ok true h1) : orT t u s h = ok true h1 := by
  unfold orT
  rw [e, bnd_ok, if_pos rfl]
theorem r_andV {p q : Bool} (e : a s h = ok (.bl p) h1) (e2 : p = true → b s h1 = ok (.bl q) h1) : andV a b s h = ok (.bl (p && q)) h1 := by
  unfold andV
  rw [e, bnd_ok]
  cases p with
  | true => exact e2 rfl
  | false => rfl
theorem r_orV {p q : Bool} (e : a s h = ok (.bl p) h1) (e2 : p = false → b s h1 = ok (.bl q) h1) : orV a b s h = ok (.bl (p || q)) h1 := by
  unfold orV
  rw [e, bnd_ok]
  cases p with
  | true => rfl
  | false => exact e2 rfl
theorem r_notV {p : Bool} (e : a s h = ok (.bl p) h1) : notV a s h = ok (.bl (!p)) h1 := by
  unfold notV
  rw [e]
  rfl
theorem r_if_t {t : MM Bool} (e : t s h = ok true h1) (e2 : a s h1 = ok x h2) : ifM t a b s h = ok x h2 := by
  unfold ifM
  rw [e, bnd_ok, if_pos rfl, e2]
theorem r_if_f {t : MM Bool} (e : t s h = ok false h1) (e2 : b s h1 = ok x h2) : ifM t a b s h = ok x h2 := by
  unfold ifM
  rw [e, bnd_ok, if_neg Bool.false_ne_true, e2]
/-! what a loop runs over -/
theorem q_fls (e : a s h = ok (.fls xs) h1) : seqI a s h = ok (.st xs) h1 := by
  unfold seqI
  rw [e]
  rfl
theorem q_tup (e : a s h = ok (.tup xs) h1) : seqI a s h = ok (.st xs) h1 := by
  unfold seqI
  rw [e]
  rfl
theorem q_frz (e : a s h = ok (.frz xs) h1) : seqI a s h = ok (.st xs) h1 := by
  unfold seqI
  rw [e]
  rfl
theorem q_ref {l : Nat} (e : a s h = ok (.ref l) h1) (e0 : h1[l]? = some (.lst xs)) : seqI a s h = ok (.dyn l (xs.length + 1)) h1 := by
  unfold seqI
  rw [e, bnd_ok]
  simp [e0]
theorem q_rng (e : a s h = ok (nV n) h1) (hn : n ≤ 400000) : rng1 (consA a nilA) s h = ok (.st ((List.range n).map nV)) h1 := by
  unfold rng1
  rw [consA_ok e r_nil, bnd_ok]
  exact rng1_n (by omega)
def rng (i j : Nat) : List Nat := (List.range (j - i)).map fun k => i + k
theorem rng_mem {i j k : Nat} : k ∈ rng i j ↔ i ≤ k ∧ k < j := by
  unfold rng
  rw [List.mem_map]
  constructor
  · rintro ⟨a, ha, e⟩
    have := List.mem_range.mp ha
    omega
  · intro h
    exact ⟨k - i, List.mem_range.mpr (by omega), by omega⟩
theorem q_rng2 {i j : Nat} (e : a s h = ok (nV i) h1) (e2 : b s h1 = ok (nV j) h2) (hn : i ≤ 400000) (hj : j ≤ 400000) : rng2 (consA a (consA b nilA)) s h = ok (.st ((rng i j).map nV)) h2 := by
  unfold rng2
  rw [consA_ok e (consA_ok e2 r_nil), bnd_ok]
  show (if ((i : Int) ≤ 1000000 ∧ -1000000 ≤ (i : Int)) ∧ ((j : Int) ≤ 1000000 ∧ -1000000 ≤ (j : Int)) then ok (MIter.st (runOf (i : Int) ((j : Int) - (i : Int)).toNat)) h2 else none) = _
  rw [if_pos (by omega)]
  unfold runOf rng
  rw [List.map_map, show ((j : Int) - (i : Int)).toNat = j - i by omega]
  rfl
/-! comprehensions -/
theorem l_st {mi : MM MIter} {vs : List Nat} {g : MG} {cd : MM Bool} {its : List MV} (e : mi s h = ok (.st its) h1) : lcM mi vs g cd el s h = lcS g cd el (wipeM s vs) its [] h1 := by
  unfold lcM
  rw [e]
  rfl
theorem l_dy {mi : MM MIter} {vs : List Nat} {g : MG} {cd : MM Bool} {l n : Nat} (e : mi s h = ok (.dyn l n) h1) : lcM mi vs g cd el s h = lcL g cd el (wipeM s vs) l n 0 [] h1 := by
  unfold lcM
  rw [e]
  rfl
/-- one that takes all -/
theorem l_y {β : Type} {mi : MM MIter} {vs : List Nat} {j : Nat} {f : β → MV} {its : List β} (e : β → MV) (ei : mi s h = ok (.st (its.map f)) h1) (hl : its.length ≤ 400000) (hs : ∀ x ∈ its, el ((wipeM s vs).set j (some (f x))) h1 = ok (e x) h1) : lcM mi vs (one j) yesT el s h = ok (its.map e) h1 :=
  (l_st ei).trans (lc_y e (by unfold lim; omega) hs)
/-- one with a test -/
theorem l_p {β : Type} {mi : MM MIter} {vs : List Nat} {j : Nat} {f : β → MV} {its : List β} {cd : MM Bool} (c : β → Bool) (e : β → MV) (ei : mi s h = ok (.st (its.map f)) h1) (hl : its.length ≤ 400000) (hs : ∀ x ∈ its, cd ((wipeM s vs).set j (some (f x))) h1 = ok (c x) h1 ∧ (c x = true → el ((wipeM s vs).set j (some (f x))) h1 = ok (e x) h1)) : lcM mi vs (one j) cd el s h = ok ((its.filter c).map e) h1 :=
  (l_st ei).trans (lc_p c e (by unfold lim; omega) hs)
/-! statements -/
theorem t_for {mi : MM MIter} {g : MG} {bd : MT} {its : List MV} (e : mi s h = ok (.st its) h1) : forM mi g bd s h = forS (turnM g bd) its s h1 := by
  unfold forM
  rw [e]
  rfl
theorem t_forD {mi : MM MIter} {g : MG} {bd : MT} {l n : Nat} (e : mi s h = ok (.dyn l n) h1) : forM mi g bd s h = forL (turnM g bd) l n 0 s h1 := by
  unfold forM
  rw [e]
  rfl
theorem t_asg {g : MG} {s1 : MS} (e : a s h = ok x h1) (e2 : g x s = some s1) : asgS g a s h = some (.nx s1 h1) := by
  unfold asgS
  rw [e, bndS_ok, e2]
theorem t_drop (e : a s h = ok x h1) : dropS a s h = some (.nx s h1) := by
  unfold dropS
  rw [e]
  rfl
theorem t_sub {l : Nat} {j : Int} {h4 : MH} (e : a s h = ok x h1) (e1 : b s h1 = ok (.ref l) h2) (e2 : d s h2 = ok (.int j) h3) (e3 : wrF l j x h3 = some h4) : subS a b d s h = some (.nx s h4) := by
  unfold subS
  rw [e, bndS_ok, e1, bndS_ok, e2, bndS_ok]
  show (match wrF l j x h3 with | some h4 => some (OutS.nx s h4) | none => none) = _
  rw [e3]
theorem w_n {l : Nat} (e : h[l]? = some (.lst xs)) (hi : i < xs.length) : wrF l (i : Int) x h = some (h.set l (.lst (xs.set i x))) := by
  unfold wrF
  rw [e]
  dsimp only
  rw [ixN_n, if_pos hi]
theorem r_app {l : Nat} {k : MM (List MV)} (e : a s h = ok (.ref l) h1) (e2 : k s h1 = ok [y] h2) (e1 : h1[l]? = some (.lst ys)) (e3 : h2[l]? = some (.lst xs)) (hl : xs.length ≤ 400000) : mthM appF a k s h = ok MV.non (h2.set l (.lst (xs ++ [y]))) := by
  unfold mthM
  rw [e, bnd_ok, if_pos (by simp [isL, e1]), e2, bnd_ok]
  show (match h2[l]? with | some (.lst zs) => if zs.length < lim then ok MV.non (h2.set l (.lst (zs ++ [y]))) else none | _ => none) = _
  rw [e3]
  dsimp only
  rw [if_pos (by unfold lim; omega)]
theorem t_if_nil {t : MM Bool} {m : MT} (e : t s h = ok false h1) : ifS t m nilS s h = some (.nx s h1) := by
  rw [ifS_f e]
  rfl
theorem wip_nx {m : MT} {s1 : MS} {vs : List Nat} (e : m s h = some (.nx s1 h1)) : wipT vs m s h = some (.nx (wipeM s1 vs) h1) := by
  unfold wipT
  rw [e]
theorem wip_ret {m : MT} {vs : List Nat} (e : m s h = some (.ret x h1)) : wipT vs m s h = some (.ret x h1) := by
  unfold wipT
  rw [e]
theorem wip_cnt {m : MT} {s1 : MS} {vs : List Nat} (e : m s h = some (.cnt s1 h1)) : wipT vs m s h = some (.cnt (wipeM s1 vs) h1) := by
  unfold wipT
  rw [e]
theorem wip_brk {m : MT} {s1 : MS} {vs : List Nat} (e : m s h = some (.brk s1 h1)) : wipT vs m s h = some (.brk (wipeM s1 vs) h1) := by
  unfold wipT
  rw [e]
theorem wip_seq {m m2 : MT} {s1 : MS} {vs : List Nat} (e : m s h = some (.nx s1 h1)) : wipT vs (seqS m m2) s h = wipT vs m2 s1 h1 := by
  unfold wipT
  rw [seq_nx e]
/-! objects -/
theorem r_fld {cn f : Str} {l : Nat} {fs : List (Str × MV)} (e : a s h = ok (.ref l) h1) (e1 : h1[l]? = some (.ins cn fs)) (e2 : fs.lookup f = some y) : fldM cn f a s h = ok y h1 := by
  unfold fldM
  rw [e, bnd_ok, insOf_ref e1]
  dsimp only
  rw [e2]
theorem t_fld {cn f : Str} {l : Nat} {fs : List (Str × MV)} (e0 : b s h = ok y h1) (e : a s h1 = ok (.ref l) h2) (e1 : h2[l]? = some (.ins cn fs)) (hl : fs.length ≤ 100) : fldS cn f b a s h = some (.nx s (h2.set l (.ins cn (putFM f y fs)))) := by
  unfold fldS
  rw [e0, bndS_ok, e, bndS_ok, insOf_ref e1]
  dsimp only
  rw [if_pos (by omega)]
theorem r_meth {nx : Res MV → Res MV} {cn f : Str} {l : Nat} {fs : List (Str × MV)} {F : MF} {ds : List MV} {k : MM (List MV)} {r : Res MV} (e : a s h = ok (.ref l) h1) (e1 : h1[l]? = some (.ins cn fs)) (e2 : fs.lookup f = none) (e3 : k s h1 = ok xs h2) (e4 : nx (F (.ref l :: (xs ++ ds)) h2) = r) : methM nx cn f F ds a k s h = r := by
  unfold methM
  rw [e, bnd_ok, insOf_ref e1]
  dsimp only
  rw [if_pos e2, e3, bnd_ok, e4]
theorem r_mak {nx : Res MV → Res MV} {cn : Str} {F : MF} {ds : List MV} {k : MM (List MV)} (e3 : k s h = ok xs h1) (e4 : nx (F (.ref h1.length :: (xs ++ ds)) (h1 ++ [.ins cn []])) = ok .non h2) : makM nx cn F ds k s h = ok (.ref h1.length) h2 := by
  unfold makM
  rw [e3, bnd_ok, e4]
  rfl
end
end Mi
set_option maxHeartbeats 2000000
/-! Mi: == and `in` of deep values; loops that break. -/
namespace Mi
open PySem L2
/-- values that are told apart by == -/
structure Eqv {α : Type} [DecidableEq α] (P : α → Prop) (k : Nat) (e : α → MV) (pd : α → PyData) : Prop where
  py : ∀ a, pyOf (e a) = some (pd a)
  lay : ∀ a, P a → (pd a).canLay0 = true
  dep : ∀ a, (pd a).depth ≤ k
  eqv : ∀ a b, PyData.eqv (pd a) (pd b) = decide (a = b)
section
variable {α β γ : Type} [DecidableEq α] [DecidableEq β] [DecidableEq γ] {P : α → Prop} {P2 : β → Prop} {P3 : γ → Prop} {k k2 k3 : Nat} {e : α → MV} {e2 : β → MV} {e3 : γ → MV} {pd : α → PyData} {pd2 : β → PyData} {pd3 : γ → PyData}
theorem Eqv.nat : Eqv (α := Nat) (fun _ => True) 0 nV fun n => .int (n : Int) := ⟨fun _ => rfl, fun _ _ => rfl, fun _ => Nat.le_refl _, fun a b => by
  show ((a : Int) == (b : Int)) = _
  rw [Bool.eq_iff_iff, beq_iff_eq, decide_eq_true_iff]
  omega⟩
theorem Eqv.int : Eqv (α := Int) (fun _ => True) 0 MV.int .int := ⟨fun _ => rfl, fun _ _ => rfl, fun _ => Nat.le_refl _, fun a b => by
  show (a == b) = _
  rw [Bool.eq_iff_iff, beq_iff_eq, decide_eq_true_iff]⟩
theorem Eqv.bool : Eqv (α := Bool) (fun _ => True) 0 MV.bl .bool := ⟨fun _ => rfl, fun _ _ => rfl, fun _ => Nat.le_refl _, fun a b => by
  show (a == b) = _
  rw [Bool.eq_iff_iff, beq_iff_eq, decide_eq_true_iff]⟩
theorem Eqv.str : Eqv (α := Str) (fun x => PyData.canLay0 (.str x) = true) 0 MV.str .str := ⟨fun _ => rfl, fun _ h => h, fun _ => Nat.le_refl _, fun a b => by
  show (a == b) = _
  rw [Bool.eq_iff_iff, beq_iff_eq, decide_eq_true_iff]⟩
theorem pys_map (h : Eqv P k e pd) : ∀ {xs : List α}, pysOf (xs.map e) = some (xs.map pd)
  | [] => rfl
  | x :: xs => by
    rw [List.map_cons]
    unfold pysOf
    rw [h.py, pys_map h]
    rfl
theorem lay_map (h : Eqv P k e pd) : ∀ {xs : List α}, (∀ x ∈ xs, P x) → PyData.canLayAll0 (xs.map pd) = true
  | [], _ => rfl
  | x :: xs, hx => by
    show (PyData.canLay0 (pd x) && PyData.canLayAll0 (xs.map pd)) = true
    rw [h.lay x (hx x (List.mem_cons_self ..)), lay_map h fun y hy => hx y (List.mem_cons_of_mem _ hy)]
    rfl
theorem dep_map (h : Eqv P k e pd) : ∀ {xs : List α}, PyData.depthAll (xs.map pd) ≤ k
  | [] => Nat.zero_le _
  | x :: xs => Nat.max_le.mpr ⟨h.dep x, dep_map h⟩
theorem eqv_map (h : Eqv P k e pd) : ∀ {xs ys : List α}, PyData.eqvAll (xs.map pd) (ys.map pd) = decide (xs = ys)
  | [], [] => rfl
  | [], y :: ys => rfl
  | x :: xs, [] => rfl
  | x :: xs, y :: ys => by
    show (PyData.eqv (pd x) (pd y) && PyData.eqvAll (xs.map pd) (ys.map pd)) = _
    rw [h.eqv, eqv_map h, ← Bool.decide_and]
    exact decide_eq_decide.mpr (by simp)
theorem Eqv.tl (h : Eqv P k e pd) : Eqv (fun xs : List α => ∀ x ∈ xs, P x) (k + 1) (fun xs => .tup (xs.map e)) fun xs => .tuple (xs.map pd) := ⟨fun xs => by
  show (pysOf (xs.map e)).map PyData.tuple = _
  rw [pys_map h]
  rfl, fun xs hx => lay_map h hx, fun xs => Nat.succ_le_succ (dep_map h), fun xs ys => eqv_map h⟩
theorem Eqv.fl (h : Eqv P k e pd) : Eqv (fun xs : List α => ∀ x ∈ xs, P x) (k + 1) (fun xs => .fls (xs.map e)) fun xs => .list (xs.map pd) := ⟨fun xs => by
  show (pysOf (xs.map e)).map PyData.list = _
  rw [pys_map h]
  rfl, fun xs hx => lay_map h hx, fun xs => Nat.succ_le_succ (dep_map h), fun xs ys => eqv_map h⟩
theorem Eqv.pr (h : Eqv P k e pd) (h2 : Eqv P2 k2 e2 pd2) : Eqv (fun p : α × β => P p.1 ∧ P2 p.2) (max k k2 + 1) (fun p => .tup [e p.1, e2 p.2]) fun p => .tuple [pd p.1, pd2 p.2] := ⟨fun p => by
  show (pysOf [e p.1, e2 p.2]).map PyData.tuple = _
  unfold pysOf pysOf pysOf
  rw [h.py, h2.py]
  rfl, fun p hp => by
  show (PyData.canLay0 (pd p.1) && (PyData.canLay0 (pd2 p.2) && true)) = true
  rw [h.lay _ hp.1, h2.lay _ hp.2]
  rfl, fun p => by
  have := h.dep p.1
  have := h2.dep p.2
  show max (pd p.1).depth (max (pd2 p.2).depth 0) + 1 ≤ _
  omega, fun p q => by
  show (PyData.eqv (pd p.1) (pd q.1) && (PyData.eqv (pd2 p.2) (pd2 q.2) && true)) = _
  rw [h.eqv, h2.eqv, Bool.and_true, ← Bool.decide_and]
  exact decide_eq_decide.mpr (by rw [Prod.ext_iff])⟩
theorem Eqv.t3 (h : Eqv P k e pd) (h2 : Eqv P2 k2 e2 pd2) (h3 : Eqv P3 k3 e3 pd3) : Eqv (fun p : α × β × γ => P p.1 ∧ P2 p.2.1 ∧ P3 p.2.2) (max k (max k2 k3) + 1) (fun p => .tup [e p.1, e2 p.2.1, e3 p.2.2]) fun p => .tuple [pd p.1, pd2 p.2.1, pd3 p.2.2] := ⟨fun p => by
  show (pysOf [e p.1, e2 p.2.1, e3 p.2.2]).map PyData.tuple = _
  unfold pysOf pysOf pysOf pysOf
  rw [h.py, h2.py, h3.py]
  rfl, fun p hp => by
  show (PyData.canLay0 (pd p.1) && (PyData.canLay0 (pd2 p.2.1) && (PyData.canLay0 (pd3 p.2.2) && true))) = true
  rw [h.lay _ hp.1, h2.lay _ hp.2.1, h3.lay _ hp.2.2]
  rfl, fun p => by
  have := h.dep p.1
  have := h2.dep p.2.1
  have := h3.dep p.2.2
  show max (pd p.1).depth (max (pd2 p.2.1).depth (max (pd3 p.2.2).depth 0)) + 1 ≤ _
  omega, fun p q => by
  show (PyData.eqv (pd p.1) (pd q.1) && (PyData.eqv (pd2 p.2.1) (pd2 q.2.1) && (PyData.eqv (pd3 p.2.2) (pd3 q.2.2) && true))) = _
  rw [h.eqv, h2.eqv, h3.eqv, Bool.and_true, ← Bool.decide_and, ← Bool.decide_and]
  exact decide_eq_decide.mpr (by rw [Prod.ext_iff, Prod.ext_iff])⟩
theorem shaped_of (h : Eqv P k e pd) (hk : k ≤ 64) {a : α} (ha : P a) : SeqAt.shaped (pd a) = true := by
  unfold SeqAt.shaped
  rw [h.lay a ha, decide_eq_true (Nat.le_trans (h.dep a) hk)]
  rfl
theorem eqB_deep {x y : MV} {d d2 : PyData} (h1 : pyOf x = some d) (h2 : pyOf y = some d2) (s1 : SeqAt.shaped d = true) (s2 : SeqAt.shaped d2 = true) : eqB x y = some (PyData.eqv d d2) := by
  have gen : (match pyOf x, pyOf y with | some d, some e => if SeqAt.shaped d = true ∧ SeqAt.shaped e = true then some (PyData.eqv d e) else none | _, _ => none) = some (PyData.eqv d d2) := by
    rw [h1, h2]
    dsimp only
    rw [if_pos ⟨s1, s2⟩]
  have fin : ∀ {p q : Bool}, (p = true ↔ q = true) → some p = some q := fun h => by rw [Bool.eq_iff_iff.mpr h]
  cases x <;> cases y <;> first
    | exact gen
    | (cases h1; cases h2; rfl)
    | (cases h1; cases h2; exact fin (by rw [decide_eq_true_iff]; exact beq_iff_eq.symm))
theorem Eqv.eqB (h : Eqv P k e pd) (hk : k ≤ 64) {a b : α} (ha : P a) (hb : P b) : eqB (e a) (e b) = some (decide (a = b)) := by
  rw [eqB_deep (h.py a) (h.py b) (shaped_of h hk ha) (shaped_of h hk hb), h.eqv]
theorem r_eqv (h : Eqv P k e pd) (hk : k ≤ 64) {s : MS} {u u1 u2 : MH} {m m2 : ME} {a b : α} (ha : P a) (hb : P b) (e1 : m s u = ok (e a) u1) (e2 : m2 s u1 = ok (e b) u2) : opM eqF m m2 s u = ok (.bl (decide (a = b))) u2 := r_op e1 e2 (by
  unfold eqF
  rw [h.eqB hk ha hb])
theorem r_nev (h : Eqv P k e pd) (hk : k ≤ 64) {s : MS} {u u1 u2 : MH} {m m2 : ME} {a b : α} (ha : P a) (hb : P b) (e1 : m s u = ok (e a) u1) (e2 : m2 s u1 = ok (e b) u2) : opM neF m m2 s u = ok (.bl (!decide (a = b))) u2 := r_op e1 e2 (by
  unfold neF
  rw [h.eqB hk ha hb])
theorem Eqv.inB (h : Eqv P k e pd) (hk : k < 64) {u : MH} {y : MV} {a : α} {xs : List α} (ha : P a) (hb : ∀ x ∈ xs, P x) (ey : seqOf u y = some (xs.map e)) : inDB u (e a) y = some (decide (a ∈ xs)) := by
  unfold inDB
  rw [h.py, ey, Option.bind_some, pys_map h]
  dsimp only
  rw [if_pos ⟨shaped_of h (by omega) ha, shaped_of h.fl (by omega) (a := xs) hb⟩]
  congr 1
  rw [Bool.eq_iff_iff, List.any_eq_true, decide_eq_true_iff]
  constructor
  · rintro ⟨z, hz, ez⟩
    obtain ⟨b, hb, rfl⟩ := List.mem_map.mp hz
    rw [h.eqv, decide_eq_true_iff] at ez
    rw [← ez]
    exact hb
  · intro ha
    exact ⟨pd a, List.mem_map_of_mem ha, by rw [h.eqv, decide_eq_true rfl]⟩
theorem r_inD (h : Eqv P k e pd) (hk : k < 64) {s : MS} {u u1 u2 : MH} {y : MV} {m m2 : ME} {a : α} {xs : List α} (ha : P a) (hb : ∀ x ∈ xs, P x) (e1 : m s u = ok (e a) u1) (e2 : m2 s u1 = ok y u2) (ey : seqOf u2 y = some (xs.map e)) : opM inDF m m2 s u = ok (.bl (decide (a ∈ xs))) u2 := r_op e1 e2 (by
  unfold inDF
  rw [h.inB hk ha hb ey])
theorem r_ninD (h : Eqv P k e pd) (hk : k < 64) {s : MS} {u u1 u2 : MH} {y : MV} {m m2 : ME} {a : α} {xs : List α} (ha : P a) (hb : ∀ x ∈ xs, P x) (e1 : m s u = ok (e a) u1) (e2 : m2 s u1 = ok y u2) (ey : seqOf u2 y = some (xs.map e)) : opM ninDF m m2 s u = ok (.bl (!decide (a ∈ xs))) u2 := r_op e1 e2 (by
  unfold ninDF
  rw [h.inB hk ha hb ey])
end
/-- a loop that may break, with a wish that each turn keeps -/
theorem for_mb {α β : Type} {bd : MV → MT} {f : β → MV} (S : α → MS) (H : α → MH) (I : α → Prop) : ∀ {xs : List β} {a0 : α}, I a0 →
    (∀ x ∈ xs, ∀ a, I a → ∃ a', (bd (f x) (S a) (H a) = some (.nx (S a') (H a')) ∨ bd (f x) (S a) (H a) = some (.cnt (S a') (H a')) ∨ bd (f x) (S a) (H a) = some (.brk (S a') (H a'))) ∧ I a') →
    ∃ a, forS bd (xs.map f) (S a0) (H a0) = some (.nx (S a) (H a)) ∧ I a
  | [], a0, h0, _ => ⟨a0, rfl, h0⟩
  | x :: xs, a0, h0, hs => by
    obtain ⟨a1, e, q⟩ := hs x (List.mem_cons_self ..) a0 h0
    rw [List.map_cons]
    unfold forS
    rcases e with e | e | e <;> rw [e]
    · exact for_mb S H I q fun y hy => hs y (List.mem_cons_of_mem _ hy)
    · exact for_mb S H I q fun y hy => hs y (List.mem_cons_of_mem _ hy)
    · exact ⟨a1, rfl, q⟩
end Mi
set_option maxHeartbeats 2000000
namespace Mi.rem
open PySem L2
noncomputable section
def b1_Remainder_take_out : MT := (wipT [2] (augSub (fun i j => i - j) (fldM "Remainder" "under_counts" (varM 0)) (varM 2) (cM (.int 1))))
def b2_Remainder_take_out : MT := (wipT [2] (augSub (fun i j => i - j) (fldM "Remainder" "over_counts" (varM 0)) (varM 2) (cM (.int 1))))
def m_Remainder_take_out : MT := (seqS (subS (cM (.bl false)) (fldM "Remainder" "left" (varM 0)) (varM 1))
    (seqS (preW [2] (forM (seqI (opM ixF (fldM "Remainder" "overs" (varM 0)) (varM 1))) (one 2) b1_Remainder_take_out))
    (preW [2] (forM (seqI (opM ixF (fldM "Remainder" "unders" (varM 0)) (varM 1))) (one 2) b2_Remainder_take_out))))
def f_Remainder_take_out : MF := defM 2 3 m_Remainder_take_out
theorem n_Remainder_take_out : ∀ (xs : List MV) (h : MH), (f_Remainder_take_out xs h).isSome = true → xs.length = 2 := fun _ _ e => defM_len e
def b1_Remainder_find_partner : MT := (wipT [5] (ifS (andT (truM (opM ixF (fldM "Remainder" "left" (varM 0)) (varM 5))) (tstM (opM eqF (opM ixF (varM 4) (varM 5)) (opM subF (opM ixF (varM 4) (varM 1)) (cM (.int 1)))))) (retS (varM 5)) nilS))
def m_Remainder_find_partner : MT := (seqS (ifS (orT (notT (tstM (chainM leF ltF (cM (.int 0)) (varM 1) (bltM lenF (consA (fldM "Remainder" "left" (varM 0)) nilA))))) (notT (truM (opM ixF (fldM "Remainder" "left" (varM 0)) (varM 1))))) (retS (cM .non)) nilS)
    (seqS (ifS (tstM (opM eqF (varM 2) (cM (.str "down")))) (parS 3 4 (consA (opM ixF (fldM "Remainder" "unders" (varM 0)) (varM 1)) (consA (fldM "Remainder" "under_counts" (varM 0)) nilA))) (parS 3 4 (consA (opM ixF (fldM "Remainder" "overs" (varM 0)) (varM 1)) (consA (fldM "Remainder" "over_counts" (varM 0)) nilA))))
    (seqS (preW [5] (forM (seqI (varM 3)) (one 5) b1_Remainder_find_partner))
    (retS (cM .non)))))
def f_Remainder_find_partner : MF := defM 3 6 m_Remainder_find_partner
theorem n_Remainder_find_partner : ∀ (xs : List MV) (h : MH), (f_Remainder_find_partner xs h).isSome = true → xs.length = 3 := fun _ _ e => defM_len e
def b1_Remainder_first_strike : MT := (wipT [3] (ifS (tstM (opM notF (methM noex "Remainder" "find_partner" f_Remainder_find_partner [] (varM 0) (consA (varM 2) (consA (varM 3) nilA))) (cM .non))) (retS (tupM (consA (varM 2) (consA (varM 3) nilA)))) nilS))
def b2_Remainder_first_strike : MT := (wipT [2, 3] (preW [3] (forM (seqI (tupM (consA (cM (.str "down")) (consA (cM (.str "up")) nilA)))) (one 3) b1_Remainder_first_strike)))
def m_Remainder_first_strike : MT := (seqS (preW [2, 3] (forM (seqI (varM 1)) (one 2) b2_Remainder_first_strike))
    (retS (cM .non)))
def f_Remainder_first_strike : MF := defM 2 4 m_Remainder_first_strike
theorem n_Remainder_first_strike : ∀ (xs : List MV) (h : MH), (f_Remainder_first_strike xs h).isSome = true → xs.length = 2 := fun _ _ e => defM_len e
def b1_Remainder_strike_out : MT := (wipT [3, 4] (seqS (setS 4 (methM noex "Remainder" "first_strike" f_Remainder_first_strike [] (varM 0) (consA (varM 1) nilA)))
    (seqS (ifS (tstM (opM isF (varM 4) (cM .non))) brkS nilS)
    (seqS (dropS (mthM appF (varM 2) (consA (varM 4) nilA)))
    (dropS (methM noex "Remainder" "take_out" f_Remainder_take_out [] (varM 0) (consA (opM ixF (varM 4) (cM (.int 0))) nilA)))))))
def m_Remainder_strike_out : MT := (seqS (setS 2 (refM (lstM nilA)))
    (seqS (preW [3, 4] (forM (seqI (varM 1)) (one 3) b1_Remainder_strike_out))
    (retS (bltM tupF (consA (varM 2) nilA)))))
def f_Remainder_strike_out : MF := cutF (defM 2 5 m_Remainder_strike_out)
theorem n_Remainder_strike_out : ∀ (xs : List MV) (h : MH), (f_Remainder_strike_out xs h).isSome = true → xs.length = 2 := cut_len fun _ _ e => defM_len e
def b1_Remainder___init__ : MT := (wipT [5] (subS (cM (.bl true)) (fldM "Remainder" "left" (varM 0)) (varM 5)))
def b2_Remainder___init__ : MT := (wipT [7, 8] (ifS (andT (truM (opM ixF (fldM "Remainder" "left" (varM 0)) (varM 7))) (truM (opM ixF (fldM "Remainder" "left" (varM 0)) (varM 8)))) (seqS (dropS (mthM appF (opM ixF (fldM "Remainder" "unders" (varM 0)) (varM 8)) (consA (varM 7) nilA)))
    (dropS (mthM appF (opM ixF (fldM "Remainder" "overs" (varM 0)) (varM 7)) (consA (varM 8) nilA)))) nilS))
def m_Remainder___init__ : MT := (seqS (asgS (unp [3, 4]) (varM 1))
    (seqS (fldS "Remainder" "left" (refM (repL (flsM (lstM (consA (cM (.bl false)) nilA))) (varM 3))) (varM 0))
    (seqS (preW [5] (forM (seqI (varM 2)) (one 5) b1_Remainder___init__))
    (seqS (fldS "Remainder" "unders" (refM (lcM (rng1 (consA (varM 3) nilA)) [6] (one 6) yesT (refM (lstM nilA)))) (varM 0))
    (seqS (fldS "Remainder" "overs" (refM (lcM (rng1 (consA (varM 3) nilA)) [6] (one 6) yesT (refM (lstM nilA)))) (varM 0))
    (seqS (preW [7, 8] (forM (seqI (varM 4)) (unp [7, 8]) b2_Remainder___init__))
    (seqS (fldS "Remainder" "under_counts" (refM (lcM (seqI (fldM "Remainder" "unders" (varM 0))) [9] (one 9) yesT (bltM lenF (consA (varM 9) nilA)))) (varM 0))
    (fldS "Remainder" "over_counts" (refM (lcM (seqI (fldM "Remainder" "overs" (varM 0))) [9] (one 9) yesT (bltM lenF (consA (varM 9) nilA)))) (varM 0)))))))))
def f_Remainder___init__ : MF := defM 3 10 m_Remainder___init__
theorem n_Remainder___init__ : ∀ (xs : List MV) (h : MH), (f_Remainder___init__ xs h).isSome = true → xs.length = 3 := fun _ _ e => defM_len e
def m_remainder_of : MT := (retS (makM noex "Remainder" f_Remainder___init__ [] (consA (varM 0) (consA (rgT (opM ixF (varM 0) (cM (.int 0)))) nilA))))
def f_remainder_of : MF := defM 1 1 m_remainder_of
theorem n_remainder_of : ∀ (xs : List MV) (h : MH), (f_remainder_of xs h).isSome = true → xs.length = 1 := fun _ _ e => defM_len e
def m_core_strikes : MT := (seqS (setS 1 (callM f_remainder_of [] (consA (varM 0) nilA)))
    (retS (methM noex "Remainder" "strike_out" f_Remainder_strike_out [] (varM 1) (consA (rgT (opM ixF (varM 0) (cM (.int 0)))) nilA))))
def f_core_strikes : MF := cutF (defM 1 2 m_core_strikes)
theorem n_core_strikes : ∀ (xs : List MV) (h : MH), (f_core_strikes xs h).isSome = true → xs.length = 1 := cut_len fun _ _ e => defM_len e
def m_Remainder_list_points : MT := (retS (bltM tupF (consA (flsM (lcM (enmI (consA (fldM "Remainder" "left" (varM 0)) nilA)) [1, 2] (unp [1, 2]) (truM (varM 2)) (varM 1))) nilA)))
def f_Remainder_list_points : MF := defM 1 3 m_Remainder_list_points
theorem n_Remainder_list_points : ∀ (xs : List MV) (h : MH), (f_Remainder_list_points xs h).isSome = true → xs.length = 1 := fun _ _ e => defM_len e
def b1_Remainder_play : MT := (wipT [3, 4, 5, 6] (seqS (setS 6 (methM noex "Remainder" "find_partner" f_Remainder_find_partner [] (varM 0) (consA (varM 4) (consA (varM 5) nilA))))
    (seqS (ifS (tstM (opM isF (varM 6) (cM .non))) (raiseS "NotStrikable" ["at"] (consA (varM 3) nilA)) nilS)
    (seqS (dropS (mthM appF (varM 2) (consA (varM 6) nilA)))
    (dropS (methM noex "Remainder" "take_out" f_Remainder_take_out [] (varM 0) (consA (varM 4) nilA)))))))
def m_Remainder_play : MT := (seqS (setS 2 (refM (lstM nilA)))
    (seqS (preW [3, 4, 5, 6] (forM (enmI (consA (varM 1) nilA)) (unpN [(one 3), (unp [4, 5])]) b1_Remainder_play))
    (retS (frzM (varM 2)))))
def f_Remainder_play : MF := cutF (defM 2 7 m_Remainder_play)
theorem n_Remainder_play : ∀ (xs : List MV) (h : MH), (f_Remainder_play xs h).isSome = true → xs.length = 2 := cut_len fun _ _ e => defM_len e
def m_points_left : MT := (seqS (setS 2 (callM f_remainder_of [] (consA (varM 0) nilA)))
    (seqS (dropS (methM id "Remainder" "play" f_Remainder_play [] (varM 2) (consA (varM 1) nilA)))
    (retS (methM noex "Remainder" "list_points" f_Remainder_list_points [] (varM 2) nilA))))
def f_points_left : MF := cutF (defM 2 3 m_points_left)
theorem n_points_left : ∀ (xs : List MV) (h : MH), (f_points_left xs h).isSome = true → xs.length = 2 := cut_len fun _ _ e => defM_len e
def m_core_points : MT := (retS (callX f_points_left [] (consA (varM 0) (consA (callM f_core_strikes [] (consA (varM 0) nilA)) nilA))))
def f_core_points : MF := defM 1 1 m_core_points
theorem n_core_points : ∀ (xs : List MV) (h : MH), (f_core_points xs h).isSome = true → xs.length = 1 := fun _ _ e => defM_len e
def m_induced : MT := (seqS (setS 2 (dcM (enmI (consA (varM 1) nilA)) [3, 4] (unp [3, 4]) yesT (varM 4) (varM 3)))
    (seqS (setS 5 (flsM (lcM (seqI (opM ixF (varM 0) (cM (.int 1)))) [6, 7] (unp [6, 7]) (andT (tstM (opM dinF (varM 6) (varM 2))) (tstM (opM dinF (varM 7) (varM 2)))) (tupM (consA (opM dgetF (varM 2) (varM 6)) (consA (opM dgetF (varM 2) (varM 7)) nilA))))))
    (retS (tupM (consA (bltM lenF (consA (varM 1) nilA)) (consA (bltM tupF (consA (varM 5) nilA)) nilA))))))
def f_induced : MF := cutF (defM 2 8 m_induced)
theorem n_induced : ∀ (xs : List MV) (h : MH), (f_induced xs h).isSome = true → xs.length = 2 := cut_len fun _ _ e => defM_len e
def m_core : MT := (retS (callM f_induced [] (consA (varM 0) (consA (callX f_core_points [] (consA (varM 0) nilA)) nilA))))
def f_core : MF := defM 1 1 m_core
theorem n_core : ∀ (xs : List MV) (h : MH), (f_core xs h).isSome = true → xs.length = 1 := fun _ _ e => defM_len e
def m_strikes_of : MT := (seqS (setS 2 (makM noex "Remainder" f_Remainder___init__ [] (consA (varM 0) (consA (varM 1) nilA))))
    (retS (bltM tupF (consA (frzM (lc2M (seqI (varM 1)) [3, 4] (one 3) yesT (seqI (tupM (consA (cM (.str "down")) (consA (cM (.str "up")) nilA)))) [4] (one 4) (tstM (opM notF (methM noex "Remainder" "find_partner" f_Remainder_find_partner [] (varM 2) (consA (varM 3) (consA (varM 4) nilA))) (cM .non))) (tupM (consA (varM 3) (consA (varM 4) nilA))))) nilA))))
def f_strikes_of : MF := cutF (defM 2 5 m_strikes_of)
theorem n_strikes_of : ∀ (xs : List MV) (h : MH), (f_strikes_of xs h).isSome = true → xs.length = 2 := cut_len fun _ _ e => defM_len e
def m_is_finished : MT := (retS (notV (callM f_strikes_of [] (consA (varM 0) (consA (callX f_points_left [] (consA (varM 0) (consA (varM 1) nilA))) nilA)))))
def f_is_finished : MF := defM 2 2 m_is_finished
theorem n_is_finished : ∀ (xs : List MV) (h : MH), (f_is_finished xs h).isSome = true → xs.length = 2 := fun _ _ e => defM_len e
def m_is_core : MT := (retS (callX f_is_finished [] (consA (varM 0) (consA (tupM nilA) nilA))))
def f_is_core : MF := defM 1 1 m_is_core
theorem n_is_core : ∀ (xs : List MV) (h : MH), (f_is_core xs h).isSome = true → xs.length = 1 := fun _ _ e => defM_len e
def m_partner : MT := (seqS (setS 3 (makM noex "Remainder" f_Remainder___init__ [] (consA (varM 0) (consA (varM 1) nilA))))
    (retS (opM ixF (methM id "Remainder" "play" f_Remainder_play [] (varM 3) (consA (tupM (consA (varM 2) nilA)) nilA)) (cM (.int 0)))))
def f_partner : MF := cutF (defM 3 4 m_partner)
theorem n_partner : ∀ (xs : List MV) (h : MH), (f_partner xs h).isSome = true → xs.length = 3 := cut_len fun _ _ e => defM_len e
end
end Mi.rem
set_option maxHeartbeats 4000000
/-! Loops over lists of the heap; a remainder's object. -/
namespace Mi.rem
open PySem L2
/-- a loop over a list of the heap that stays as it is -/
theorem for_d {α β : Type} {bd : MV → MT} {f : β → MV} {l : Nat} (S : α → MS) (H : α → MH) (I : Nat → α → Prop) {xs : List β} (hl : ∀ i a, I i a → (H a)[l]? = some (.lst (xs.map f))) : ∀ {k j : Nat} {a0 : α}, j + k = xs.length → I j a0 →
    (∀ i x a, xs[i]? = some x → I i a → ∃ a', (bd (f x) (S a) (H a) = some (.nx (S a') (H a')) ∨ bd (f x) (S a) (H a) = some (.cnt (S a') (H a'))) ∧ I (i + 1) a') →
    ∃ a, forL bd l (k + 1) j (S a0) (H a0) = some (.nx (S a) (H a)) ∧ I xs.length a
  | 0, j, a0, hj, h0, hs => by
    refine ⟨a0, ?_, by rwa [show xs.length = j by omega]⟩
    rw [forL, hl j a0 h0]
    dsimp only
    rw [List.getElem?_eq_none (by rw [List.length_map]; omega)]
  | k + 1, j, a0, hj, h0, hs => by
    obtain ⟨x, hx⟩ : ∃ x, xs[j]? = some x := ⟨_, List.getElem?_eq_getElem (by omega)⟩
    obtain ⟨a1, e, q⟩ := hs j x a0 hx h0
    obtain ⟨a, e2, q2⟩ := for_d S H I hl (k := k) (j := j + 1) (a0 := a1) (by omega) q hs
    refine ⟨a, ?_, q2⟩
    have hx2 : (xs.map f)[j]? = some (f x) := by rw [List.getElem?_map, hx]; rfl
    rw [forL, hl j a0 h0]
    dsimp only
    rw [hx2]
    dsimp only
    rcases e with e | e <;> rw [e] <;> exact e2
/-- .. that ends at the first item of a kind, and changes nothing else -/
theorem for_df {β : Type} {bd : MV → MT} {f : β → MV} {l : Nat} {s : MS} {h : MH} (c : β → Bool) (r : β → MV) {xs : List β} (hl : h[l]? = some (.lst (xs.map f))) (hs : ∀ x ∈ xs, bd (f x) s h = if c x = true then some (.ret (r x) h) else some (.nx s h)) : ∀ {k j : Nat}, j + k = xs.length →
    forL bd l (k + 1) j s h = match (xs.drop j).find? c with
      | some x => some (.ret (r x) h)
      | none => some (.nx s h)
  | 0, j, hj => by
    rw [forL, hl]
    dsimp only
    rw [List.getElem?_eq_none (by rw [List.length_map]; omega), List.drop_eq_nil_of_le (by omega)]
    rfl
  | k + 1, j, hj => by
    obtain ⟨x, hx⟩ : ∃ x, xs[j]? = some x := ⟨_, List.getElem?_eq_getElem (by omega)⟩
    obtain ⟨hj2, ex⟩ := List.getElem?_eq_some_iff.mp hx
    have hx2 : (xs.map f)[j]? = some (f x) := by rw [List.getElem?_map, hx]; rfl
    rw [forL, hl]
    dsimp only
    rw [hx2]
    dsimp only
    rw [hs x (List.mem_of_getElem? hx), List.drop_eq_getElem_cons hj2, ex, List.find?_cons]
    cases hc : c x with
    | true => rfl
    | false =>
      rw [if_neg Bool.false_ne_true]
      exact for_df c r hl hs (k := k) (j := j + 1) (by omega)
/-- how many of B are g-below x, for x of A -/
def cA (n : Nat) (g : Nat → Nat → Bool) (A B : Nat → Bool) (x : Nat) : Nat := (fib n fun y => B y && (A x && g y x)).length
/-- .. for all x -/
def cnt (n : Nat) (g : Nat → Nat → Bool) (B : Nat → Bool) (x : Nat) : Nat := (fib n fun y => B y && g y x).length
theorem cA_cnt {n x : Nat} {g : Nat → Nat → Bool} {A B : Nat → Bool} (h : A x = true) : cA n g A B x = cnt n g B x := by
  unfold cA cnt
  rw [h]
  rfl
/-- the partner -/
def ptn (n : Nat) (g : Nat → Nat → Bool) (B : Nat → Bool) (x : Nat) : Option Nat := (List.range n).find? fun y => B y && (g y x && decide (cnt n g B y + 1 = cnt n g B x))
def flp (f : Nat → Nat → Bool) : Nat → Nat → Bool := fun x y => f y x
def near (n : Nat) (g : Nat → Nat → Bool) (A : Nat → Bool) (x : Nat) : List Nat := fib n fun y => A y && (A x && g y x)
def nearV (n : Nat) (g : Nat → Nat → Bool) (A : Nat → Bool) (x : Nat) : List MV := (near n g A x).map nV
def cntV (n : Nat) (g : Nat → Nat → Bool) (A B : Nat → Bool) : List MV := tb n fun x => nV (cA n g A B x)
def remF (p n : Nat) : List (Str × MV) := [("left", .ref (p + 1)), ("unders", .ref (p + 2 + n)), ("overs", .ref (p + 3 + n + n)), ("under_counts", .ref (p + 4 + n + n)), ("over_counts", .ref (p + 5 + n + n))]
def remH (p n : Nat) (f : Nat → Nat → Bool) (A B : Nat → Bool) : MH := MO.ins "Remainder" (remF p n) :: (MO.lst (rowB n B) :: (matH (p + 2) (tb n fun x => nearV n f A x) ++ (matH (p + 3 + n) (tb n fun x => nearV n (flp f) A x) ++ [MO.lst (cntV n f A B), MO.lst (cntV n (flp f) A B)])))
section
variable {p n x : Nat} {f g : Nat → Nat → Bool} {A B : Nat → Bool} {h t : MH}
theorem remH_len : (remH p n f A B).length = 6 + n + n := by
  unfold remH
  simp [matH_len]
  omega
theorem rem_obj (hp : h.length = p) : (h ++ (remH p n f A B ++ t))[p]? = some (.ins "Remainder" (remF p n)) := by
  rw [ga0 hp]
  rfl
theorem rem_left (hp : h.length = p) : (h ++ (remH p n f A B ++ t))[p + 1]? = some (.lst (rowB n B)) := by
  rw [ga hp]
  rfl
theorem assoc6 {a b : MO} {u v w : MH} : h ++ ((a :: b :: (u ++ (v ++ w))) ++ t) = (h ++ [a, b]) ++ (u ++ (v ++ (w ++ t))) := by simp
theorem assoc7 {a b : MO} {u v w : MH} : h ++ ((a :: b :: (u ++ (v ++ w))) ++ t) = (h ++ ([a, b] ++ u)) ++ (v ++ (w ++ t)) := by simp
theorem assoc8 {a b : MO} {u v w : MH} : h ++ ((a :: b :: (u ++ (v ++ w))) ++ t) = (h ++ ([a, b] ++ (u ++ v))) ++ (w ++ t) := by simp
theorem rem_un (hp : h.length = p) : (h ++ (remH p n f A B ++ t))[p + 2 + n]? = some (.lst (refsM (p + 2) n)) := by
  unfold remH
  rw [assoc6, ga (by simp [hp]), mat_top tb_len]
theorem rem_unrow (hp : h.length = p) (hx : x < n) : (h ++ (remH p n f A B ++ t))[p + 2 + x]? = some (.lst (nearV n f A x)) := by
  unfold remH
  rw [assoc6, ga (by simp [hp]), mat_row (tb_get hx)]
theorem rem_ov (hp : h.length = p) : (h ++ (remH p n f A B ++ t))[p + 3 + n + n]? = some (.lst (refsM (p + 3 + n) n)) := by
  unfold remH
  rw [assoc7, ga (by simp [hp, matH_len]; omega), mat_top tb_len]
theorem rem_ovrow (hp : h.length = p) (hx : x < n) : (h ++ (remH p n f A B ++ t))[p + 3 + n + x]? = some (.lst (nearV n (flp f) A x)) := by
  unfold remH
  rw [assoc7, ga (by simp [hp, matH_len]; omega), mat_row (tb_get hx)]
theorem rem_uc (hp : h.length = p) : (h ++ (remH p n f A B ++ t))[p + 4 + n + n]? = some (.lst (cntV n f A B)) := by
  unfold remH
  rw [assoc8, ga0 (by simp [hp, matH_len]; omega)]
  rfl
theorem rem_oc (hp : h.length = p) : (h ++ (remH p n f A B ++ t))[p + 5 + n + n]? = some (.lst (cntV n (flp f) A B)) := by
  unfold remH
  rw [assoc8, show p + 5 + n + n = (p + 4 + n + n) + 1 by omega, ga (by simp [hp, matH_len]; omega)]
  rfl
end
end Mi.rem
set_option maxHeartbeats 4000000
/-! find_partner -/
namespace Mi.rem
open PySem L2
theorem r_chain {f g : MV → MV → MH → Res MV} {a b d : ME} {s : MS} {h h1 h2 h3 : MH} {x y w : MV} {p q : Bool} (ea : a s h = ok x h1) (eb : b s h1 = ok y h2) (ef : f x y h2 = ok (.bl p) h3) (ed : p = true → d s h3 = ok w h3) (eg : p = true → g y w h3 = ok (.bl q) h3) : chainM f g a b d s h = ok (.bl (p && q)) h3 := by
  unfold chainM
  rw [ea, bnd_ok, eb, bnd_ok, ef, bnd_ok]
  show (ok p h3).bnd _ = _
  rw [bnd_ok]
  cases p with
  | true =>
    rw [if_pos rfl, ed rfl, bnd_ok, eg rfl]
    rfl
  | false => rfl
theorem t_par {i j : Nat} {a : MM (List MV)} {s : MS} {h h1 : MH} {x y : MV} (e : a s h = ok [x, y] h1) : parS i j a s h = some (.nx ((s.set i (some x)).set j (some y)) h1) := by
  unfold parS
  rw [e]
  rfl
def optV : Option Nat → MV
  | none => .non
  | some y => nV y
def dir (w : Str) (f : Nat → Nat → Bool) : Nat → Nat → Bool := if w = "down" then f else flp f
/-- the partner for a strike, by any whole number -/
def pS (n : Nat) (f : Nat → Nat → Bool) (B : Nat → Bool) (i : Int) (w : Str) : Option Nat := if 0 ≤ i ∧ i.toNat < n ∧ B i.toNat = true then ptn n (dir w f) B i.toNat else none
section
variable {p n x : Nat} {f g : Nat → Nat → Bool} {A B : Nat → Bool} {h t : MH} {s : MS}
theorem fld_left (hp : h.length = p) {a : ME} (ea : a s (h ++ (remH p n f A B ++ t)) = ok (.ref p) (h ++ (remH p n f A B ++ t))) : fldM "Remainder" "left" a s (h ++ (remH p n f A B ++ t)) = ok (.ref (p + 1)) (h ++ (remH p n f A B ++ t)) := r_fld ea (rem_obj hp) rfl
theorem fld_un (hp : h.length = p) {a : ME} (ea : a s (h ++ (remH p n f A B ++ t)) = ok (.ref p) (h ++ (remH p n f A B ++ t))) : fldM "Remainder" "unders" a s (h ++ (remH p n f A B ++ t)) = ok (.ref (p + 2 + n)) (h ++ (remH p n f A B ++ t)) := r_fld ea (rem_obj hp) rfl
theorem fld_ov (hp : h.length = p) {a : ME} (ea : a s (h ++ (remH p n f A B ++ t)) = ok (.ref p) (h ++ (remH p n f A B ++ t))) : fldM "Remainder" "overs" a s (h ++ (remH p n f A B ++ t)) = ok (.ref (p + 3 + n + n)) (h ++ (remH p n f A B ++ t)) := r_fld ea (rem_obj hp) rfl
theorem fld_uc (hp : h.length = p) {a : ME} (ea : a s (h ++ (remH p n f A B ++ t)) = ok (.ref p) (h ++ (remH p n f A B ++ t))) : fldM "Remainder" "under_counts" a s (h ++ (remH p n f A B ++ t)) = ok (.ref (p + 4 + n + n)) (h ++ (remH p n f A B ++ t)) := r_fld ea (rem_obj hp) rfl
theorem fld_oc (hp : h.length = p) {a : ME} (ea : a s (h ++ (remH p n f A B ++ t)) = ok (.ref p) (h ++ (remH p n f A B ++ t))) : fldM "Remainder" "over_counts" a s (h ++ (remH p n f A B ++ t)) = ok (.ref (p + 5 + n + n)) (h ++ (remH p n f A B ++ t)) := r_fld ea (rem_obj hp) rfl
theorem ix_left (hp : h.length = p) {a b : ME} (ea : a s (h ++ (remH p n f A B ++ t)) = ok (.ref p) (h ++ (remH p n f A B ++ t))) (eb : b s (h ++ (remH p n f A B ++ t)) = ok (nV x) (h ++ (remH p n f A B ++ t))) (hx : x < n) : truM (opM ixF (fldM "Remainder" "left" a) b) s (h ++ (remH p n f A B ++ t)) = ok (B x) (h ++ (remH p n f A B ++ t)) :=
  r_tru (r_ixr (fld_left hp ea) eb (rem_left hp) (rowB_get hx))
theorem find_eq (hAB : ∀ y, B y = true → A y = true) (hx : B x = true) : (near n g A x).find? (fun y => B y && decide (cA n g A B y + 1 = cA n g A B x)) = ptn n g B x := by
  unfold near ptn fib
  rw [List.find?_filter]
  congr 1
  funext y
  rw [cA_cnt (hAB x hx), hAB x hx]
  cases hy : B y with
  | false => simp
  | true =>
    rw [cA_cnt (hAB y hy), hAB y hy]
    simp
theorem fp_loop (hp : h.length = p) (hAB : ∀ y, B y = true → A y = true) (hx : x < n) (hB : B x = true) (w : MV) {r c : Nat} (hr : (h ++ (remH p n f A B ++ t))[r]? = some (.lst (nearV n g A x))) (hc : (h ++ (remH p n f A B ++ t))[c]? = some (.lst (cntV n g A B))) :
    seqS (preW [5] (forM (seqI (varM 3)) (one 5) b1_Remainder_find_partner)) (retS (cM .non)) [some (.ref p), some (nV x), some w, some (.ref r), some (.ref c), none] (h ++ (remH p n f A B ++ t)) = some (.ret (optV (ptn n g B x)) (h ++ (remH p n f A B ++ t))) := by
  have lp := for_df (bd := turnM (one 5) b1_Remainder_find_partner) (f := nV) (l := r) (s := [some (.ref p), some (nV x), some w, some (.ref r), some (.ref c), none]) (h := h ++ (remH p n f A B ++ t)) (fun y => B y && decide (cA n g A B y + 1 = cA n g A B x)) nV (xs := near n g A x) hr (fun y hy => by
    have hy' : y < n := (fib_mem.mp hy).1
    show b1_Remainder_find_partner [some (.ref p), some (nV x), some w, some (.ref r), some (.ref c), some (nV y)] (h ++ (remH p n f A B ++ t)) = _
    unfold b1_Remainder_find_partner
    have tt : andT (truM (opM ixF (fldM "Remainder" "left" (varM 0)) (varM 5))) (tstM (opM eqF (opM ixF (varM 4) (varM 5)) (opM subF (opM ixF (varM 4) (varM 1)) (cM (.int 1))))) [some (.ref p), some (nV x), some w, some (.ref r), some (.ref c), some (nV y)] (h ++ (remH p n f A B ++ t)) = ok (B y && decide (cA n g A B y + 1 = cA n g A B x)) (h ++ (remH p n f A B ++ t)) := by
      refine r_and (ix_left hp rfl rfl hy') fun _ => r_tst (r_op (r_ixr (xs := cntV n g A B) (i := y) rfl rfl hc (tb_get hy')) (r_op (r_ixr (xs := cntV n g A B) (i := x) rfl rfl hc (tb_get hx)) rfl rfl) ?_)
      show ok (MV.bl (decide (((cA n g A B y : Nat) : Int) = ((cA n g A B x : Nat) : Int) - 1))) _ = _
      congr 2
      rw [decide_eq_decide]
      omega
    cases hq : (B y && decide (cA n g A B y + 1 = cA n g A B x)) with
    | true =>
      rw [hq] at tt
      rw [if_pos rfl, wip_ret ((ifS_t tt).trans (retS_ok rfl))]
    | false =>
      rw [hq] at tt
      rw [if_neg Bool.false_ne_true, wip_nx (t_if_nil tt)]
      rfl) (k := (near n g A x).length) (j := 0) (by omega)
  rw [List.drop_zero, find_eq hAB hB] at lp
  have lp2 : preW [5] (forM (seqI (varM 3)) (one 5) b1_Remainder_find_partner) [some (.ref p), some (nV x), some w, some (.ref r), some (.ref c), none] (h ++ (remH p n f A B ++ t)) = forL (turnM (one 5) b1_Remainder_find_partner) r ((near n g A x).length + 1) 0 [some (.ref p), some (nV x), some w, some (.ref r), some (.ref c), none] (h ++ (remH p n f A B ++ t)) := by
    show forM _ _ _ [some (.ref p), some (nV x), some w, some (.ref r), some (.ref c), none] (h ++ (remH p n f A B ++ t)) = _
    rw [t_forD (q_ref rfl hr), nearV, List.length_map]
  rw [lp] at lp2
  cases hq : ptn n g B x with
  | none =>
    rw [hq] at lp2
    rw [seq_nx lp2]
    rfl
  | some y =>
    rw [hq] at lp2
    rw [seq_ret lp2]
    rfl
theorem find_partner (hp : h.length = p) (hAB : ∀ y, B y = true → A y = true) {i : Int} {w : Str} : f_Remainder_find_partner [.ref p, .int i, .str w] (h ++ (remH p n f A B ++ t)) = ok (optV (pS n f B i w)) (h ++ (remH p n f A B ++ t)) := by
  refine defM_ret rfl ?_
  show m_Remainder_find_partner [some (.ref p), some (.int i), some (.str w), none, none, none] _ = _
  unfold m_Remainder_find_partner
  have c1 : tstM (chainM leF ltF (cM (.int 0)) (varM 1) (bltM lenF (consA (fldM "Remainder" "left" (varM 0)) nilA))) [some (.ref p), some (.int i), some (.str w), none, none, none] (h ++ (remH p n f A B ++ t)) = ok (decide (0 ≤ i) && decide (i < n)) (h ++ (remH p n f A B ++ t)) := by
    refine r_tst (r_chain rfl rfl rfl (fun _ => r_lenr (fld_left hp rfl) (rem_left hp)) fun _ => ?_)
    rw [rowB_len]
    rfl
  by_cases hi : 0 ≤ i ∧ i < n
  · obtain ⟨x, rfl⟩ : ∃ x : Nat, i = x := ⟨i.toNat, by omega⟩
    have hx : x < n := by omega
    have ep : pS n f B (x : Int) w = if B x = true then ptn n (dir w f) B x else none := by
      unfold pS
      simp [hx]
    rw [ep]
    have c2 : truM (opM ixF (fldM "Remainder" "left" (varM 0)) (varM 1)) [some (.ref p), some (nV x), some (.str w), none, none, none] (h ++ (remH p n f A B ++ t)) = ok (B x) (h ++ (remH p n f A B ++ t)) := ix_left hp rfl rfl hx
    rw [decide_eq_true hi.1, decide_eq_true hi.2] at c1
    have c3 := r_or (r_not c1) fun _ => r_not c2
    cases hB : B x with
    | false =>
      rw [hB] at c3
      rw [seq_ret ((ifS_t c3).trans (retS_ok rfl))]
      rfl
    | true =>
      rw [hB] at c3
      rw [seq_nx (t_if_nil c3), if_pos rfl]
      have c4 : tstM (opM eqF (varM 2) (cM (.str "down"))) [some (.ref p), some (nV x), some (.str w), none, none, none] (h ++ (remH p n f A B ++ t)) = ok (decide (w = "down")) (h ++ (remH p n f A B ++ t)) := r_tst (r_eqs rfl rfl)
      by_cases hw : w = "down"
      · rw [decide_eq_true hw] at c4
        rw [seq_nx ((ifS_t c4).trans (t_par (consA_ok (r_ixr (xs := refsM (p + 2) n) (i := x) (fld_un hp rfl) rfl (rem_un hp) (refs_get hx)) (consA_ok (fld_uc hp rfl) r_nil))))]
        rw [show dir w f = f from if_pos hw]
        exact fp_loop hp hAB hx hB _ (rem_unrow hp hx) (rem_uc hp)
      · rw [decide_eq_false hw] at c4
        rw [seq_nx ((ifS_f c4).trans (t_par (consA_ok (r_ixr (xs := refsM (p + 3 + n) n) (i := x) (fld_ov hp rfl) rfl (rem_ov hp) (refs_get hx)) (consA_ok (fld_oc hp rfl) r_nil))))]
        rw [show dir w f = flp f from if_neg hw]
        exact fp_loop hp hAB hx hB _ (rem_ovrow hp hx) (rem_oc hp)
  · have ep : pS n f B i w = none := by
      unfold pS
      rw [if_neg (by omega)]
    rw [ep]
    have : (decide (0 ≤ i) && decide (i < (n : Int))) = false := by
      rw [Bool.and_eq_false_iff, decide_eq_false_iff_not, decide_eq_false_iff_not]
      omega
    rw [this] at c1
    rw [seq_ret ((ifS_t (r_or_t (r_not c1))).trans (retS_ok rfl))]
    rfl
end
end Mi.rem
set_option maxHeartbeats 4000000
/-! a remainder is made -/
namespace Mi.rem
open PySem L2
/-- a comprehension over a list of the heap that stays as it is -/
theorem lcL_y {β : Type} {i p : Nat} {f : β → MV} {el : ME} {s0 : MS} {h : MH} (e : β → MV) {xs : List β} (hp : h[p]? = some (.lst (xs.map f))) (hl : xs.length ≤ 400000) (hs : ∀ x ∈ xs, el (s0.set i (some (f x))) h = ok (e x) h) :
    lcL (one i) yesT el s0 p (xs.length + 1) 0 [] h = ok (xs.map e) h := by
  have : ∀ (k j : Nat) (ac : List MV), j + k = xs.length → ac.length = j → lcL (one i) yesT el s0 p (k + 1) j ac h = ok (ac ++ (xs.drop j).map e) h := by
    intro k
    induction k with
    | zero =>
      intro j ac hj hac
      have : (xs.map f)[j]? = none := List.getElem?_eq_none (by rw [List.length_map]; omega)
      rw [lcL, hp]
      dsimp only
      rw [this, List.drop_eq_nil_of_le (by omega)]
      show ok ac _ = ok (ac ++ []) _
      rw [List.append_nil]
    | succ k ih =>
      intro j ac hj hac
      obtain ⟨y, hy⟩ : ∃ y, xs[j]? = some y := ⟨_, List.getElem?_eq_getElem (by omega)⟩
      have hy2 : (xs.map f)[j]? = some (f y) := by rw [List.getElem?_map, hy]; rfl
      obtain ⟨hj2, ey⟩ := List.getElem?_eq_some_iff.mp hy
      rw [lcL, hp]
      dsimp only
      rw [hy2]
      show (ok true h).bnd _ = _
      rw [bnd_ok, if_pos rfl, hs y (List.mem_of_getElem? hy), bnd_ok, if_pos (by unfold lim; omega), ih (j + 1) (ac ++ [e y]) (by omega) (by rw [List.length_append, hac]; rfl), List.drop_eq_getElem_cons hj2, ey, List.map_cons, List.append_assoc]
      rfl
  have := this xs.length 0 [] (by omega) rfl
  rw [this, List.drop_zero, List.nil_append]
theorem refs_map {b n : Nat} : refsM b n = (List.range n).map fun k => MV.ref (b + k) := rfl
def remB (p n : Nat) (F : List (Str × MV)) (B : Nat → Bool) (U O : List (List MV)) : MH := MO.ins "Remainder" F :: (MO.lst (rowB n B) :: (matH (p + 2) U ++ matH (p + 3 + n) O))
section
variable {p n x : Nat} {f g : Nat → Nat → Bool} {A B : Nat → Bool} {h t : MH} {F : List (Str × MV)} {U O : List (List MV)}
theorem b_obj (hp : h.length = p) : (h ++ (remB p n F B U O ++ t))[p]? = some (.ins "Remainder" F) := by
  rw [ga0 hp]
  rfl
theorem b_left (hp : h.length = p) : (h ++ (remB p n F B U O ++ t))[p + 1]? = some (.lst (rowB n B)) := by
  rw [ga hp]
  rfl
theorem b_asc {a b : MO} {u v : MH} : h ++ ((a :: b :: (u ++ v)) ++ t) = (h ++ [a, b]) ++ (u ++ (v ++ t)) := by simp
theorem b_asc2 {a b : MO} {u v : MH} : h ++ ((a :: b :: (u ++ v)) ++ t) = (h ++ ([a, b] ++ u)) ++ (v ++ t) := by simp
theorem b_un (hp : h.length = p) (hU : U.length = n) : (h ++ (remB p n F B U O ++ t))[p + 2 + n]? = some (.lst (refsM (p + 2) n)) := by
  unfold remB
  rw [b_asc, ga (by simp [hp]), mat_top hU]
theorem b_unrow {r : List MV} (hp : h.length = p) (hx : U[x]? = some r) : (h ++ (remB p n F B U O ++ t))[p + 2 + x]? = some (.lst r) := by
  unfold remB
  rw [b_asc, ga (by simp [hp]), mat_row hx]
theorem b_ov (hp : h.length = p) (hU : U.length = n) (hO : O.length = n) : (h ++ (remB p n F B U O ++ t))[p + 3 + n + n]? = some (.lst (refsM (p + 3 + n) n)) := by
  unfold remB
  rw [b_asc2, ga (by simp [hp, matH_len, hU]; omega), mat_top hO]
theorem b_ovrow {r : List MV} (hp : h.length = p) (hU : U.length = n) (hx : O[x]? = some r) : (h ++ (remB p n F B U O ++ t))[p + 3 + n + x]? = some (.lst r) := by
  unfold remB
  rw [b_asc2, ga (by simp [hp, matH_len, hU]; omega), mat_row hx]
theorem b_setobj (hp : h.length = p) {G : List (Str × MV)} : (h ++ (remB p n F B U O ++ t)).set p (.ins "Remainder" G) = h ++ (remB p n G B U O ++ t) := by
  rw [sa0 hp]
  rfl
theorem b_setun {r : List MV} (hp : h.length = p) (hx : x < U.length) : (h ++ (remB p n F B U O ++ t)).set (p + 2 + x) (.lst r) = h ++ (remB p n F B (U.set x r) O ++ t) := by
  unfold remB
  rw [b_asc, sa (by simp [hp]), mat_set hx, ← b_asc]
theorem b_setov {r : List MV} (hp : h.length = p) (hU : U.length = n) (hx : x < O.length) : (h ++ (remB p n F B U O ++ t)).set (p + 3 + n + x) (.lst r) = h ++ (remB p n F B U (O.set x r) ++ t) := by
  unfold remB
  rw [b_asc2, sa (by simp [hp, matH_len, hU]; omega), mat_set hx, ← b_asc2]
end
/-- those below y of the first pairs -/
def uQ (A : Nat → Bool) (ps : List (Nat × Nat)) (y : Nat) : List Nat := (ps.filter fun q => decide (q.2 = y) && (A q.1 && A q.2)).map (·.1)
def oQ (A : Nat → Bool) (ps : List (Nat × Nat)) (x : Nat) : List Nat := (ps.filter fun q => decide (q.1 = x) && (A q.1 && A q.2)).map (·.2)
def rowsU (n : Nat) (A : Nat → Bool) (ps : List (Nat × Nat)) : List (List MV) := tb n fun y => (uQ A ps y).map nV
def rowsO (n : Nat) (A : Nat → Bool) (ps : List (Nat × Nat)) : List (List MV) := tb n fun y => (oQ A ps y).map nV
theorem flt_one {n y : Nat} {c : Nat → Bool} (hy : y < n) : ((List.range n).filter c).filter (fun z => decide (z = y)) = if c y = true then [y] else [] := by
  rw [List.filter_filter]
  have e : (List.range n).filter (fun a => decide (a = y) && c a) = if c y = true then [y] else [] := by
    induction n with
    | zero => omega
    | succ n ih =>
      rw [List.range_succ, List.filter_append]
      by_cases h : y < n
      · rw [ih h]
        have : (decide (n = y)) = false := decide_eq_false (by omega)
        simp [this]
      · have hn : n = y := by omega
        subst hn
        have : (List.range n).filter (fun a => decide (a = n) && c a) = [] := by
          rw [List.filter_eq_nil_iff]
          intro a ha
          have := List.mem_range.mp ha
          simp
          omega
        rw [this, List.nil_append]
        cases hc : c n <;> simp [hc]
  exact e
theorem uQ_prs {n y : Nat} {f : Nat → Nat → Bool} {A : Nat → Bool} (hy : y < n) : uQ A (prs n f) y = near n f A y := by
  unfold uQ near prs fib
  rw [List.filter_flatMap, List.map_flatMap]
  have : ∀ x, (((((List.range n).filter (f x)).map fun y => (x, y)).filter fun q => decide (q.2 = y) && (A q.1 && A q.2)).map (·.1)) = if (A x && (A y && f x y)) = true then [x] else [] := fun x => by
    rw [List.filter_map, List.map_map]
    have e1 : (fun q : Nat × Nat => decide (q.2 = y) && (A q.1 && A q.2)) ∘ (fun y => (x, y)) = fun z => decide (z = y) && (A x && A y) := by
      funext z
      show (decide (z = y) && (A x && A z)) = _
      by_cases h : z = y
      · rw [h]
      · rw [decide_eq_false h]
        rfl
    rw [e1]
    have e2 := flt_one (c := f x) hy
    cases ha : (A x && A y) with
    | false =>
      have : (A x && (A y && f x y)) = false := by
        rw [← Bool.and_assoc, ha]
        rfl
      simp [this]
    | true =>
      have : (A x && (A y && f x y)) = f x y := by
        rw [← Bool.and_assoc, ha]
        rfl
      simp only [Bool.and_true]
      rw [e2, this]
      cases f x y <;> rfl
  rw [show (fun a => List.map (·.1) (List.filter (fun q : Nat × Nat => decide (q.2 = y) && (A q.1 && A q.2)) (List.map (fun y => (a, y)) (List.filter (f a) (List.range n))))) = fun x => if (A x && (A y && f x y)) = true then [x] else [] from funext this]
  generalize List.range n = xs
  induction xs with
  | nil => rfl
  | cons x xs ih =>
    rw [List.flatMap_cons, ih, List.filter_cons]
    cases (A x && (A y && f x y)) <;> rfl
theorem oQ_prs {n x : Nat} {f : Nat → Nat → Bool} {A : Nat → Bool} (hx : x < n) : oQ A (prs n f) x = near n (flp f) A x := by
  unfold oQ near prs fib flp
  rw [List.filter_flatMap, List.map_flatMap]
  have e1 : ∀ a, ((((List.range n).filter (f a)).map fun y => (a, y)).filter fun q => decide (q.1 = x) && (A q.1 && A q.2)).map (·.2) = if a = x then (List.range n).filter (fun y => A y && (A x && f x y)) else [] := fun a => by
    rw [List.filter_map, List.map_map]
    have : (fun q : Nat × Nat => decide (q.1 = x) && (A q.1 && A q.2)) ∘ (fun y => (a, y)) = fun z => decide (a = x) && (A a && A z) := rfl
    rw [this]
    by_cases h : a = x
    · subst h
      rw [if_pos rfl, List.filter_filter]
      have : ((fun x : Nat × Nat => x.2) ∘ fun y => (a, y)) = id := rfl
      rw [this, List.map_id]
      congr 1
      funext z
      simp [Bool.and_comm, Bool.and_left_comm]
    · rw [if_neg h, decide_eq_false h]
      simp
  rw [show (fun a => List.map (·.2) (List.filter (fun q : Nat × Nat => decide (q.1 = x) && (A q.1 && A q.2)) (List.map (fun y => (a, y)) (List.filter (f a) (List.range n))))) = fun a => if a = x then (List.range n).filter (fun y => A y && (A x && f x y)) else [] from funext e1]
  generalize (List.range n).filter (fun y => A y && (A x && f x y)) = Z
  have : ∀ m, x < m → (List.range m).flatMap (fun a => if a = x then Z else []) = Z := by
    intro m
    induction m with
    | zero => omega
    | succ m ih =>
      intro hm
      rw [List.range_succ, List.flatMap_append]
      by_cases h : x < m
      · rw [ih h]
        have : ¬ m = x := by omega
        simp [this]
      · have hm : m = x := by omega
        subst hm
        have : (List.range m).flatMap (fun a => if a = m then Z else []) = [] := by
          rw [List.flatMap_eq_nil_iff]
          intro a ha
          have := List.mem_range.mp ha
          rw [if_neg (by omega)]
        rw [this]
        simp
  exact this n hx
theorem rowsU_prs {n : Nat} {f : Nat → Nat → Bool} {A : Nat → Bool} : rowsU n A (prs n f) = tb n fun x => nearV n f A x := tb_congr fun y hy => by
  rw [uQ_prs hy]
  rfl
theorem rowsO_prs {n : Nat} {f : Nat → Nat → Bool} {A : Nat → Bool} : rowsO n A (prs n f) = tb n fun x => nearV n (flp f) A x := tb_congr fun y hy => by
  rw [oQ_prs hy]
  rfl
theorem rowsU_snoc {n : Nat} {A : Nat → Bool} {ps : List (Nat × Nat)} {q : Nat × Nat} : rowsU n A (ps ++ [q]) = if A q.1 = true ∧ A q.2 = true then (rowsU n A ps).set q.2 ((uQ A ps q.2).map nV ++ [nV q.1]) else rowsU n A ps := by
  unfold rowsU
  have e : ∀ y, uQ A (ps ++ [q]) y = uQ A ps y ++ if q.2 = y ∧ A q.1 = true ∧ A q.2 = true then [q.1] else [] := fun y => by
    unfold uQ
    rw [List.filter_append, List.map_append]
    congr 1
    by_cases h : q.2 = y ∧ A q.1 = true ∧ A q.2 = true
    · rw [if_pos h, List.filter_cons_of_pos (by simpa using h)]
      rfl
    · rw [if_neg h]
      rw [List.filter_cons_of_neg (by simpa using h)]
      rfl
  by_cases c : A q.1 = true ∧ A q.2 = true
  · rw [if_pos c, tb_set]
    refine tb_congr fun y hy => ?_
    rw [e]
    by_cases z : y = q.2
    · subst z
      rw [if_pos rfl, if_pos ⟨rfl, c⟩, List.map_append]
      rfl
    · rw [if_neg z, if_neg (fun w => z w.1.symm), List.append_nil]
  · rw [if_neg c]
    refine tb_congr fun y hy => ?_
    rw [e, if_neg (fun w => c w.2), List.append_nil]
theorem rowsO_snoc {n : Nat} {A : Nat → Bool} {ps : List (Nat × Nat)} {q : Nat × Nat} : rowsO n A (ps ++ [q]) = if A q.1 = true ∧ A q.2 = true then (rowsO n A ps).set q.1 ((oQ A ps q.1).map nV ++ [nV q.2]) else rowsO n A ps := by
  unfold rowsO
  have e : ∀ y, oQ A (ps ++ [q]) y = oQ A ps y ++ if q.1 = y ∧ A q.1 = true ∧ A q.2 = true then [q.2] else [] := fun y => by
    unfold oQ
    rw [List.filter_append, List.map_append]
    congr 1
    by_cases h : q.1 = y ∧ A q.1 = true ∧ A q.2 = true
    · rw [if_pos h, List.filter_cons_of_pos (by simpa using h)]
      rfl
    · rw [if_neg h]
      rw [List.filter_cons_of_neg (by simpa using h)]
      rfl
  by_cases c : A q.1 = true ∧ A q.2 = true
  · rw [if_pos c, tb_set]
    refine tb_congr fun y hy => ?_
    rw [e]
    by_cases z : y = q.1
    · subst z
      rw [if_pos rfl, if_pos ⟨rfl, c⟩, List.map_append]
      rfl
    · rw [if_neg z, if_neg (fun w => z w.1.symm), List.append_nil]
  · rw [if_neg c]
    refine tb_congr fun y hy => ?_
    rw [e, if_neg (fun w => c w.2), List.append_nil]
end Mi.rem
set_option maxHeartbeats 4000000
/-! a remainder is made -/
namespace Mi.rem
open PySem L2
def fs1 (p : Nat) : List (Str × MV) := [("left", .ref (p + 1))]
def fs2 (p n : Nat) : List (Str × MV) := [("left", .ref (p + 1)), ("unders", .ref (p + 2 + n)), ("overs", .ref (p + 3 + n + n))]
def iS (p n : Nat) (f : Nat → Nat → Bool) (L : List Nat) : MS := [some (.ref p), some (ordV n (prs n f)), some (.tup (L.map nV)), some (nV n), some (.tup ((prs n f).map prV)), none, none, none, none, none]
section
variable {p n : Nat} {f : Nat → Nat → Bool} {A : Nat → Bool} {L : List Nat} {h : MH}
theorem init_left (hp : h.length = p) (hn : n ≤ 64) (hL : ∀ x ∈ L, x < n) :
    preW [5] (forM (seqI (varM 2)) (one 5) b1_Remainder___init__) (iS p n f L) (h ++ [.ins "Remainder" (fs1 p), .lst (rowB n fun _ => false)]) = some (.nx (iS p n f L) (h ++ [.ins "Remainder" (fs1 p), .lst (rowB n fun x => decide (x ∈ L))])) := by
  obtain ⟨k, e, hk⟩ := for_m (f := nV) (bd := turnM (one 5) b1_Remainder___init__) (xs := L) (fun _ : Nat => iS p n f L) (fun k => h ++ [.ins "Remainder" (fs1 p), .lst (rowB n fun x => decide (x ∈ L.take k))]) (fun i k => k = i) (a0 := 0) rfl fun i x k hx hk => by
    subst hk
    refine ⟨k + 1, .inl ?_, rfl⟩
    have hxL := List.mem_of_getElem? hx
    show b1_Remainder___init__ ((iS p n f L).set 5 (some (nV x))) _ = _
    unfold b1_Remainder___init__
    have o1 : (h ++ [MO.ins "Remainder" (fs1 p), .lst (rowB n fun x => decide (x ∈ L.take k))])[p]? = some (.ins "Remainder" (fs1 p)) := by
      rw [ga0 hp]
      rfl
    have o2 : (h ++ [MO.ins "Remainder" (fs1 p), .lst (rowB n fun x => decide (x ∈ L.take k))])[p + 1]? = some (.lst (rowB n fun x => decide (x ∈ L.take k))) := by
      rw [ga hp]
      rfl
    refine (wip_nx (t_sub (l := p + 1) (j := (x : Int)) rfl (r_fld (y := .ref (p + 1)) rfl o1 rfl) rfl (w_n (i := x) o2 (by rw [rowB_len]; exact hL x hxL)))).trans ?_
    rw [sa hp]
    show some (OutS.nx (iS p n f L) (h ++ [MO.ins "Remainder" (fs1 p), .lst ((rowB n fun x => decide (x ∈ L.take k)).set x (.bl true))])) = _
    rw [rowB_set]
    congr 6
    refine rowB_congr fun y hy => ?_
    rw [List.take_add_one, hx]
    by_cases c : y = x
    · rw [if_pos c]
      simp [c]
    · rw [if_neg c]
      simp [c]
  subst hk
  show forM _ _ _ (iS p n f L) _ = _
  rw [t_for (q_tup (xs := L.map nV) rfl)]
  simpa using e
theorem init_pairs (hp : h.length = p) (hn : n ≤ 64) :
    preW [7, 8] (forM (seqI (varM 4)) (unp [7, 8]) b2_Remainder___init__) (iS p n f L) (h ++ (remB p n (fs2 p n) A (rowsU n A []) (rowsO n A []) ++ [])) = some (.nx (iS p n f L) (h ++ (remB p n (fs2 p n) A (rowsU n A (prs n f)) (rowsO n A (prs n f)) ++ []))) := by
  have uo : ∀ ps, (rowsU n A ps).length = n ∧ (rowsO n A ps).length = n := fun ps => ⟨tb_len, tb_len⟩
  obtain ⟨k, e, hk⟩ := for_m (f := prV) (bd := turnM (unp [7, 8]) b2_Remainder___init__) (xs := prs n f) (fun _ : Nat => iS p n f L) (fun k => h ++ (remB p n (fs2 p n) A (rowsU n A ((prs n f).take k)) (rowsO n A ((prs n f).take k)) ++ [])) (fun i k => k = i) (a0 := 0) rfl fun i q k hx hk => by
    subst hk
    refine ⟨k + 1, .inl ?_, rfl⟩
    obtain ⟨q1, q2, _⟩ := prs_mem.mp (List.mem_of_getElem? hx)
    have tk : (prs n f).take (k + 1) = (prs n f).take k ++ [q] := by rw [List.take_add_one, hx]; rfl
    rw [tk, rowsU_snoc, rowsO_snoc]
    generalize hps : (prs n f).take k = ps
    have lps : ps.length ≤ 4096 := by
      rw [← hps, List.length_take]
      have := prs_len (n := n) (f := f)
      have : n * n ≤ 64 * 64 := Nat.mul_le_mul hn hn
      omega
    show b2_Remainder___init__ (((iS p n f L).set 7 (some (nV q.1))).set 8 (some (nV q.2))) _ = _
    unfold b2_Remainder___init__
    have ll : ∀ {U O : List (List MV)} {x : Nat} {b : ME} {s : MS}, varM 0 s (h ++ (remB p n (fs2 p n) A U O ++ [])) = ok (.ref p) (h ++ (remB p n (fs2 p n) A U O ++ [])) → b s (h ++ (remB p n (fs2 p n) A U O ++ [])) = ok (nV x) (h ++ (remB p n (fs2 p n) A U O ++ [])) → x < n → truM (opM ixF (fldM "Remainder" "left" (varM 0)) b) s (h ++ (remB p n (fs2 p n) A U O ++ [])) = ok (A x) (h ++ (remB p n (fs2 p n) A U O ++ [])) := fun e0 eb hx => r_tru (r_ixr (r_fld e0 (b_obj hp) (y := .ref (p + 1)) rfl) eb (b_left hp) (rowB_get hx))
    have t := r_and (t := truM (opM ixF (fldM "Remainder" "left" (varM 0)) (varM 7))) (u := truM (opM ixF (fldM "Remainder" "left" (varM 0)) (varM 8))) (s := ((iS p n f L).set 7 (some (nV q.1))).set 8 (some (nV q.2))) (h := h ++ (remB p n (fs2 p n) A (rowsU n A ps) (rowsO n A ps) ++ [])) (ll rfl rfl q1) fun _ => ll rfl rfl q2
    by_cases c : A q.1 = true ∧ A q.2 = true
    · rw [if_pos c, if_pos c]
      rw [c.1, c.2] at t
      have l1 : (uQ A ps q.2).length ≤ 4096 := by
        unfold uQ
        rw [List.length_map]
        exact Nat.le_trans (List.length_filter_le ..) lps
      have l2 : (oQ A ps q.1).length ≤ 4096 := by
        unfold oQ
        rw [List.length_map]
        exact Nat.le_trans (List.length_filter_le ..) lps
      have u1 : (rowsU n A ps)[q.2]? = some ((uQ A ps q.2).map nV) := tb_get q2
      have o1 : (rowsO n A ps)[q.1]? = some ((oQ A ps q.1).map nV) := tb_get q1
      have hu := (uo ps).1
      have ho := (uo ps).2
      have hu2 : ((rowsU n A ps).set q.2 ((uQ A ps q.2).map nV ++ [nV q.1])).length = n := by rw [List.length_set, hu]
      have s1 := t_drop (r_app (s := ((iS p n f L).set 7 (some (nV q.1))).set 8 (some (nV q.2))) (a := opM ixF (fldM "Remainder" "unders" (varM 0)) (varM 8)) (k := consA (varM 7) nilA) (l := p + 2 + q.2) (r_ixr (xs := refsM (p + 2) n) (i := q.2) (r_fld (y := .ref (p + 2 + n)) rfl (b_obj hp) rfl) rfl (b_un hp hu) (refs_get q2)) (consA_ok rfl r_nil) (b_unrow hp u1) (b_unrow (t := []) (F := fs2 p n) (B := A) (O := rowsO n A ps) hp u1) (by rw [List.length_map]; omega))
      rw [b_setun hp (by rw [hu]; exact q2)] at s1
      have s2 := t_drop (r_app (s := ((iS p n f L).set 7 (some (nV q.1))).set 8 (some (nV q.2))) (a := opM ixF (fldM "Remainder" "overs" (varM 0)) (varM 7)) (k := consA (varM 8) nilA) (l := p + 3 + n + q.1) (r_ixr (xs := refsM (p + 3 + n) n) (i := q.1) (r_fld (y := .ref (p + 3 + n + n)) rfl (b_obj (t := []) (F := fs2 p n) (B := A) (U := (rowsU n A ps).set q.2 ((uQ A ps q.2).map nV ++ [nV q.1])) (O := rowsO n A ps) hp) rfl) rfl (b_ov hp hu2 ho) (refs_get q1)) (consA_ok rfl r_nil) (b_ovrow hp hu2 o1) (b_ovrow (t := []) (F := fs2 p n) (B := A) (U := (rowsU n A ps).set q.2 ((uQ A ps q.2).map nV ++ [nV q.1])) (O := rowsO n A ps) hp hu2 o1) (by rw [List.length_map]; omega))
      rw [b_setov hp hu2 (by rw [ho]; exact q1)] at s2
      exact wip_nx ((ifS_t t).trans ((seq_nx s1).trans s2))
    · rw [if_neg c, if_neg c]
      have : (A q.1 && A q.2) = false := by
        cases h : (A q.1 && A q.2) with
        | false => rfl
        | true =>
          rw [Bool.and_eq_true] at h
          exact (c h).elim
      rw [this] at t
      exact wip_nx (t_if_nil t)
  subst hk
  show forM _ _ _ (iS p n f L) _ = _
  rw [t_for (q_tup (xs := (prs n f).map prV) rfl)]
  simpa using e
theorem near_len {g : Nat → Nat → Bool} {x : Nat} : (near n g A x).length = cA n g A A x := rfl
theorem defM_nx {np n : Nat} {m : MT} {xs : List MV} {h h1 : MH} {s1 : MS} (hl : xs.length = np) (e : m (xs.map some ++ List.replicate (n - np) none) h = some (.nx s1 h1)) : defM np n m xs h = ok .non h1 := by
  unfold defM
  rw [if_pos hl, e]
theorem new_rows {s : MS} {H : MH} {b : Nat} (hb : b = H.length) (hn : n ≤ 64) (hs : ∀ h, varM 3 s h = ok (nV n) h) : refM (lcM (rng1 (consA (varM 3) nilA)) [6] (one 6) yesT (refM (lstM nilA))) s H = ok (.ref (b + n)) (H ++ matH b (tb n fun _ => [])) := by
  subst hb
  have e := mat_new (i := 6) (f := nV) (s0 := wipeM s [6]) (m := lstM nilA) (fun _ => []) (xs := List.range n) (h := H) (by rw [List.length_range]; unfold lim; omega) fun x _ h => r_lst r_nil (by simp)
  rw [r_ref ((l_st (q_rng (hs H) (by omega))).trans e), List.length_range]
  unfold matH tb
  rw [List.map_map, List.length_append, List.length_map, List.length_map, List.length_range, List.append_assoc]
  rfl
theorem cnts {s : MS} {H : MH} {rows : List (List MV)} {b : Nat} {w : ME} {l : Nat} (hw : w s H = ok (.ref l) H) (hl : H[l]? = some (.lst (refsM b n))) (hr : ∀ x, x < n → ∃ r, rows[x]? = some r ∧ H[b + x]? = some (.lst r)) (hn : n ≤ 64) (hs : ∀ x, varM 9 ((wipeM s [9]).set 9 (some x)) H = ok x H) :
    refM (lcM (seqI w) [9] (one 9) yesT (bltM lenF (consA (varM 9) nilA))) s H = ok (.ref H.length) (H ++ [.lst (tb n fun x => nV ((rows[x]?).getD []).length)]) := by
  refine r_ref ((l_dy (q_ref hw hl)).trans ?_)
  rw [refs_len]
  have := lcL_y (i := 9) (p := l) (f := fun k => MV.ref (b + k)) (el := bltM lenF (consA (varM 9) nilA)) (s0 := wipeM s [9]) (h := H) (fun x => nV ((rows[x]?).getD []).length) (xs := List.range n) hl (by rw [List.length_range]; omega) fun x hx => by
    obtain ⟨r, h1, h2⟩ := hr x (List.mem_range.mp hx)
    rw [h1]
    exact r_lenr (hs _) h2
  rw [List.length_range] at this
  exact this
theorem make (hp : h.length = p) (hn : n ≤ 64) (hL : ∀ x ∈ L, x < n) : f_Remainder___init__ [.ref p, ordV n (prs n f), .tup (L.map nV)] (h ++ [.ins "Remainder" []]) = ok .non (h ++ remH p n f (fun x => decide (x ∈ L)) (fun x => decide (x ∈ L))) := by
  obtain ⟨A, hA⟩ : ∃ A : Nat → Bool, A = fun x => decide (x ∈ L) := ⟨_, rfl⟩
  rw [← hA]
  have il := init_left (f := f) hp hn hL
  rw [← hA] at il
  have sset : ∀ {t : MH} {o o2 : MO}, (h ++ o :: t).set p o2 = h ++ o2 :: t := fun {t o o2} => by
    rw [sa0 hp]
    rfl
  have oat : ∀ {t : MH} {o : MO}, (h ++ o :: t)[p]? = some o := fun {t o} => by
    rw [ga0 hp]
    rfl
  -- left
  have s2 : fldS "Remainder" "left" (refM (repL (flsM (lstM (consA (cM (.bl false)) nilA))) (varM 3))) (varM 0) (iS p n f L) (h ++ [.ins "Remainder" []]) = some (.nx (iS p n f L) (h ++ [.ins "Remainder" (fs1 p), .lst (rowB n fun _ => false)])) := by
    have e := r_ref (r_rep (a := flsM (lstM (consA (cM (.bl false)) nilA))) (b := varM 3) (s := iS p n f L) (h := h ++ [.ins "Remainder" []]) (n := n) (xs := [.bl false]) (r_fls (r_lst (consA_ok rfl r_nil) (by simp))) rfl (by simp; omega) (by omega))
    rw [rep_bl, List.append_assoc] at e
    refine (t_fld e (l := p) rfl (oat (t := [.lst (rowB n fun _ => false)])) (by simp)).trans ?_
    show some (OutS.nx _ ((h ++ MO.ins "Remainder" [] :: [MO.lst (rowB n fun _ => false)]).set p _)) = _
    rw [sset, List.length_append, hp]
    rfl
  -- unders
  have s4 : fldS "Remainder" "unders" (refM (lcM (rng1 (consA (varM 3) nilA)) [6] (one 6) yesT (refM (lstM nilA)))) (varM 0) (iS p n f L) (h ++ [.ins "Remainder" (fs1 p), .lst (rowB n A)]) = some (.nx (iS p n f L) (h ++ (.ins "Remainder" [("left", .ref (p + 1)), ("unders", .ref (p + 2 + n))] :: .lst (rowB n A) :: matH (p + 2) (tb n fun _ => [])))) := by
    have e := new_rows (s := iS p n f L) (H := h ++ [.ins "Remainder" (fs1 p), .lst (rowB n A)]) (b := p + 2) (by simp [hp]) hn (fun _ => rfl)
    rw [List.append_assoc] at e
    refine (t_fld e (l := p) rfl oat (by simp [fs1])).trans ?_
    rw [sset]
    rfl
  have s5 : fldS "Remainder" "overs" (refM (lcM (rng1 (consA (varM 3) nilA)) [6] (one 6) yesT (refM (lstM nilA)))) (varM 0) (iS p n f L) (h ++ (.ins "Remainder" [("left", .ref (p + 1)), ("unders", .ref (p + 2 + n))] :: .lst (rowB n A) :: matH (p + 2) (tb n fun _ => []))) = some (.nx (iS p n f L) (h ++ (remB p n (fs2 p n) A (rowsU n A []) (rowsO n A []) ++ []))) := by
    have e := new_rows (s := iS p n f L) (H := h ++ (.ins "Remainder" [("left", .ref (p + 1)), ("unders", .ref (p + 2 + n))] :: .lst (rowB n A) :: matH (p + 2) (tb n fun _ => []))) (b := p + 3 + n) (by simp [hp, matH_len]; omega) hn (fun _ => rfl)
    rw [List.append_assoc] at e
    refine (t_fld e (l := p) rfl oat (by simp)).trans ?_
    rw [sset, List.append_nil]
    rfl
  have s6 := init_pairs (A := A) (f := f) (L := L) hp hn
  have hu : (rowsU n A (prs n f)).length = n := tb_len
  have ho : (rowsO n A (prs n f)).length = n := tb_len
  -- counts
  have s7 : fldS "Remainder" "under_counts" (refM (lcM (seqI (fldM "Remainder" "unders" (varM 0))) [9] (one 9) yesT (bltM lenF (consA (varM 9) nilA)))) (varM 0) (iS p n f L) (h ++ (remB p n (fs2 p n) A (rowsU n A (prs n f)) (rowsO n A (prs n f)) ++ [])) = some (.nx (iS p n f L) (h ++ (remB p n [("left", .ref (p + 1)), ("unders", .ref (p + 2 + n)), ("overs", .ref (p + 3 + n + n)), ("under_counts", .ref (p + 4 + n + n))] A (rowsU n A (prs n f)) (rowsO n A (prs n f)) ++ [.lst (cntV n f A A)]))) := by
    have e := cnts (s := iS p n f L) (n := n) (H := h ++ (remB p n (fs2 p n) A (rowsU n A (prs n f)) (rowsO n A (prs n f)) ++ [])) (rows := rowsU n A (prs n f)) (b := p + 2) (l := p + 2 + n) (w := fldM "Remainder" "unders" (varM 0)) (r_fld rfl (b_obj hp) rfl) (b_un hp hu) (fun x hx => ⟨_, tb_get hx, b_unrow hp (tb_get hx)⟩) hn (fun x => rfl)
    have ec : (tb n fun x => nV (((rowsU n A (prs n f))[x]?).getD []).length) = cntV n f A A := tb_congr fun x hx => by
      rw [rowsU_prs, tb_get hx]
      show nV ((near n f A x).map nV).length = _
      rw [List.length_map, near_len]
    rw [ec] at e
    have lp : (h ++ (remB p n (fs2 p n) A (rowsU n A (prs n f)) (rowsO n A (prs n f)) ++ [])).length = p + 4 + n + n := by
      simp [remB, matH_len, hu, ho, hp]
      omega
    rw [lp, List.append_assoc, List.append_assoc, List.nil_append] at e
    refine (t_fld e (l := p) rfl (b_obj hp) (by simp [fs2])).trans ?_
    rw [b_setobj hp]
    rfl
  have s8 : fldS "Remainder" "over_counts" (refM (lcM (seqI (fldM "Remainder" "overs" (varM 0))) [9] (one 9) yesT (bltM lenF (consA (varM 9) nilA)))) (varM 0) (iS p n f L) (h ++ (remB p n [("left", .ref (p + 1)), ("unders", .ref (p + 2 + n)), ("overs", .ref (p + 3 + n + n)), ("under_counts", .ref (p + 4 + n + n))] A (rowsU n A (prs n f)) (rowsO n A (prs n f)) ++ [.lst (cntV n f A A)])) = some (.nx (iS p n f L) (h ++ (remB p n (remF p n) A (rowsU n A (prs n f)) (rowsO n A (prs n f)) ++ [.lst (cntV n f A A), .lst (cntV n (flp f) A A)]))) := by
    have e := cnts (s := iS p n f L) (n := n) (H := h ++ (remB p n [("left", .ref (p + 1)), ("unders", .ref (p + 2 + n)), ("overs", .ref (p + 3 + n + n)), ("under_counts", .ref (p + 4 + n + n))] A (rowsU n A (prs n f)) (rowsO n A (prs n f)) ++ [.lst (cntV n f A A)])) (rows := rowsO n A (prs n f)) (b := p + 3 + n) (l := p + 3 + n + n) (w := fldM "Remainder" "overs" (varM 0)) (r_fld rfl (b_obj hp) rfl) (b_ov hp hu ho) (fun x hx => ⟨_, tb_get hx, b_ovrow hp hu (tb_get hx)⟩) hn (fun x => rfl)
    have ec : (tb n fun x => nV (((rowsO n A (prs n f))[x]?).getD []).length) = cntV n (flp f) A A := tb_congr fun x hx => by
      rw [rowsO_prs, tb_get hx]
      show nV ((near n (flp f) A x).map nV).length = _
      rw [List.length_map, near_len]
    rw [ec] at e
    have lp : (h ++ (remB p n [("left", .ref (p + 1)), ("unders", .ref (p + 2 + n)), ("overs", .ref (p + 3 + n + n)), ("under_counts", .ref (p + 4 + n + n))] A (rowsU n A (prs n f)) (rowsO n A (prs n f)) ++ [MO.lst (cntV n f A A)])).length = p + 5 + n + n := by
      simp [remB, matH_len, hu, ho, hp]
      omega
    rw [lp, List.append_assoc, List.append_assoc, List.singleton_append] at e
    refine (t_fld e (l := p) rfl (b_obj hp) (by simp)).trans ?_
    rw [b_setobj hp]
    rfl
  have eq : h ++ remH p n f A A = h ++ (remB p n (remF p n) A (rowsU n A (prs n f)) (rowsO n A (prs n f)) ++ [MO.lst (cntV n f A A), MO.lst (cntV n (flp f) A A)]) := by
    rw [rowsU_prs, rowsO_prs]
    unfold remH remB
    simp
  rw [eq]
  refine defM_nx rfl (s1 := iS p n f L) ?_
  show m_Remainder___init__ [some (.ref p), some (ordV n (prs n f)), some (.tup (L.map nV)), none, none, none, none, none, none, none] _ = _
  unfold m_Remainder___init__
  refine (seq_nx (t_asg (s1 := iS p n f L) (x := ordV n (prs n f)) rfl rfl)).trans ?_
  exact (seq_nx s2).trans ((seq_nx il).trans ((seq_nx s4).trans ((seq_nx s5).trans ((seq_nx s6).trans ((seq_nx s7).trans s8)))))
end
end Mi.rem
set_option maxHeartbeats 4000000
/-! strikes_of -/
namespace Mi.rem
open PySem L2
theorem li_q {β : Type} {valy : β → MV} {e : β → MV} {c : β → Bool} {g1 : MG} {cd1 : MM Bool} {el : ME} {s1 : MS} {H : MH} {k : MH → Res MV} : ∀ {ys : List β} {acc : List MV},
    (∀ y ∈ ys, ∃ s2, g1 (valy y) s1 = some s2 ∧ ∀ acc, cd1 s2 (H ++ [.lst acc]) = ok (c y) (H ++ [.lst acc]) ∧ (c y = true → el s2 (H ++ [.lst acc]) = ok (e y) (H ++ [.lst acc]))) → acc.length + ys.length ≤ 400000 →
    liS g1 cd1 el s1 H.length k (ys.map valy) (H ++ [.lst acc]) = k (H ++ [.lst (acc ++ (ys.filter c).map e)])
  | [], acc, _, _ => by
    show k _ = _
    rw [List.filter_nil, List.map_nil, List.append_nil]
  | y :: ys, acc, hs, hn => by
    obtain ⟨s2, e1, e2⟩ := hs y (List.mem_cons_self ..)
    obtain ⟨e3, e4⟩ := e2 acc
    rw [List.length_cons] at hn
    rw [List.map_cons]
    unfold liS
    rw [e1]
    show (cd1 s2 _).bnd _ = _
    rw [e3, bnd_ok]
    cases hc : c y with
    | false =>
      rw [if_neg Bool.false_ne_true, List.filter_cons_of_neg (by rw [hc]; exact Bool.false_ne_true)]
      exact li_q (fun z hz => hs z (List.mem_cons_of_mem _ hz)) (by omega)
    | true =>
      rw [if_pos rfl, e4 hc, bnd_ok, get_app]
      dsimp only
      rw [if_pos (by unfold lim; omega), set_app, List.filter_cons_of_pos hc, List.map_cons]
      have ih := li_q (ys := ys) (acc := acc ++ [e y]) (k := k) (fun z hz => hs z (List.mem_cons_of_mem _ hz)) (by rw [List.length_append]; show acc.length + 1 + ys.length ≤ 400000; omega)
      rw [List.append_assoc] at ih
      exact ih
theorem lc2_q {α β : Type} {val : α → MV} {valy : β → MV} {ys : α → List β} {c : α → β → Bool} {e : α → β → MV} {g g1 : MG} {mi1 : MM MIter} {vs1 : List Nat} {cd1 : MM Bool} {el : ME} {s0 : MS} {H : MH} : ∀ {xs : List α} {acc : List MV},
    (∀ x ∈ xs, ∃ s1, g (val x) s0 = some s1 ∧ (∀ acc, mi1 s1 (H ++ [.lst acc]) = ok (.st ((ys x).map valy)) (H ++ [.lst acc])) ∧ ∀ y ∈ ys x, ∃ s2, g1 (valy y) (wipeM s1 vs1) = some s2 ∧ ∀ acc, cd1 s2 (H ++ [.lst acc]) = ok (c x y) (H ++ [.lst acc]) ∧ (c x y = true → el s2 (H ++ [.lst acc]) = ok (e x y) (H ++ [.lst acc]))) →
    acc.length + (xs.flatMap ys).length ≤ 400000 →
    lc2S g yesT mi1 vs1 g1 cd1 el s0 H.length (xs.map val) (H ++ [.lst acc]) = ok (.ref H.length) (H ++ [.lst (acc ++ xs.flatMap fun x => ((ys x).filter (c x)).map (e x))])
  | [], acc, _, _ => by
    show ok (MV.ref _) _ = _
    rw [List.flatMap_nil, List.append_nil]
  | x :: xs, acc, hs, hn => by
    obtain ⟨s1, e1, e2, e3⟩ := hs x (List.mem_cons_self ..)
    rw [List.flatMap_cons, List.length_append] at hn
    rw [List.map_cons]
    unfold lc2S
    rw [e1]
    show (ok true _).bnd _ = _
    rw [bnd_ok, if_pos rfl, e2, bnd_ok]
    show liS g1 cd1 el _ _ _ _ _ = _
    have lf : ((ys x).filter (c x)).length ≤ (ys x).length := List.length_filter_le ..
    rw [li_q e3 (by omega), lc2_q (xs := xs) (fun z hz => hs z (List.mem_cons_of_mem _ hz)) (by rw [List.length_append, List.length_map]; omega), List.flatMap_cons, List.append_assoc]
theorem frz_q {α β : Type} {val : α → MV} {valy : β → MV} {xs : List α} {ys : α → List β} {c : α → β → Bool} {e : α → β → MV} {g g1 : MG} {mi mi1 : MM MIter} {vs vs1 : List Nat} {cd1 : MM Bool} {el : ME} {s : MS} {H : MH} (hm : mi s H = ok (.st (xs.map val)) H)
    (hs : ∀ x ∈ xs, ∃ s1, g (val x) (wipeM s vs) = some s1 ∧ (∀ acc, mi1 s1 (H ++ [.lst acc]) = ok (.st ((ys x).map valy)) (H ++ [.lst acc])) ∧ ∀ y ∈ ys x, ∃ s2, g1 (valy y) (wipeM s1 vs1) = some s2 ∧ ∀ acc, cd1 s2 (H ++ [.lst acc]) = ok (c x y) (H ++ [.lst acc]) ∧ (c x y = true → el s2 (H ++ [.lst acc]) = ok (e x y) (H ++ [.lst acc])))
    (hn : (xs.flatMap ys).length ≤ 400000) (hf : ∀ x ∈ xs, ∀ y ∈ ys x, flatT (e x y) = true) :
    frzM (lc2M mi vs g yesT mi1 vs1 g1 cd1 el) s H = ok (.fls (xs.flatMap fun x => ((ys x).filter (c x)).map (e x))) (H ++ [.dead]) := by
  have e1 := lc2_q (acc := []) hs (by simpa using hn)
  rw [List.nil_append] at e1
  have fl : (xs.flatMap fun x => ((ys x).filter (c x)).map (e x)).all flatT = true := by
    rw [List.all_eq_true]
    intro z hz
    obtain ⟨x, hx, hz⟩ := List.mem_flatMap.mp hz
    obtain ⟨y, hy, rfl⟩ := List.mem_map.mp hz
    exact hf x hx y (List.mem_filter.mp hy).1
  have e3 := frz_lst (h := H ++ [.lst (xs.flatMap fun x => ((ys x).filter (c x)).map (e x))]) (l := H.length) 2 get_app fl
  rw [set_app] at e3
  show ((lc2M mi vs g yesT mi1 vs1 g1 cd1 el s H).bnd _) = _
  unfold lc2M
  rw [hm, bnd_ok]
  dsimp only
  rw [e1, bnd_ok, e3]
theorem r_notnone {o : Option Nat} {a : ME} {s : MS} {h h1 : MH} (e : a s h = ok (optV o) h1) : tstM (opM notF a (cM .non)) s h = ok o.isSome h1 := by
  refine r_tst (r_op e rfl ?_)
  cases o <;> rfl
def ways : List Str := ["down", "up"]
def s2V (q : Nat × Str) : MV := .tup [nV q.1, .str q.2]
/-- the strikes that can be made -/
def soL (n : Nat) (f : Nat → Nat → Bool) (B : Nat → Bool) (L : List Nat) : List (Nat × Str) := L.flatMap fun x : Nat => (ways.filter fun w => (pS n f B (x : Int) w).isSome).map fun w => (x, w)
theorem flt_len {L : List Nat} : (L.flatMap fun _ => ways).length = 2 * L.length := by
  induction L with
  | nil => rfl
  | cons x L ih =>
    rw [List.flatMap_cons, List.length_append, ih, List.length_cons]
    show 2 + _ = _
    omega
theorem soL_len {n : Nat} {f : Nat → Nat → Bool} {B : Nat → Bool} {L : List Nat} : (soL n f B L).length ≤ 2 * L.length := by
  unfold soL
  induction L with
  | nil => exact Nat.le_refl _
  | cons x L ih =>
    rw [List.flatMap_cons, List.length_append, List.length_map, List.length_cons]
    have : (ways.filter fun w => (pS n f B (x : Int) w).isSome).length ≤ ways.length := List.length_filter_le ..
    have : ways.length = 2 := rfl
    omega
section
variable {n : Nat} {f : Nat → Nat → Bool} {L : List Nat} {h : MH}
theorem mem_A {L : List Nat} : (fun x => decide (x ∈ L)) = fun x => decide (x ∈ L) := rfl
theorem make_ok {p : Nat} {s : MS} {k : MM (List MV)} (hp : h.length = p) (hn : n ≤ 64) (hL : ∀ x ∈ L, x < n) (ek : k s h = ok [ordV n (prs n f), .tup (L.map nV)] h) : makM noex "Remainder" f_Remainder___init__ [] k s h = ok (.ref p) (h ++ remH p n f (fun x => decide (x ∈ L)) (fun x => decide (x ∈ L))) := by
  subst hp
  exact r_mak ek (by
    rw [show (MV.ref h.length :: ([ordV n (prs n f), .tup (L.map nV)] ++ [])) = [.ref h.length, ordV n (prs n f), .tup (L.map nV)] from rfl, make rfl hn hL]
    rfl)
theorem strikes_of (hn : n ≤ 64) (hL : ∀ x ∈ L, x < n) (hl : L.length ≤ 64) : f_strikes_of [ordV n (prs n f), .tup (L.map nV)] h = ok (.tup ((soL n f (fun x => decide (x ∈ L)) L).map s2V)) h := by
  obtain ⟨B, hB⟩ : ∃ B : Nat → Bool, B = fun x => decide (x ∈ L) := ⟨_, rfl⟩
  obtain ⟨p, hp⟩ : ∃ p, h.length = p := ⟨_, rfl⟩
  have mk := make_ok (f := f) (s := [some (ordV n (prs n f)), some (.tup (L.map nV)), none, none, none]) (k := consA (varM 0) (consA (varM 1) nilA)) hp hn hL rfl
  rw [← hB] at mk ⊢
  have fz := frz_q (val := nV) (valy := MV.str) (xs := L) (ys := fun _ => ways) (c := fun x w => (pS n f B x w).isSome) (e := fun x w => s2V (x, w)) (g := one 3) (g1 := one 4) (mi := seqI (varM 1)) (mi1 := seqI (tupM (consA (cM (.str "down")) (consA (cM (.str "up")) nilA)))) (vs := [3, 4]) (vs1 := [4]) (cd1 := tstM (opM notF (methM noex "Remainder" "find_partner" f_Remainder_find_partner [] (varM 2) (consA (varM 3) (consA (varM 4) nilA))) (cM .non))) (el := tupM (consA (varM 3) (consA (varM 4) nilA)))
    (s := [some (ordV n (prs n f)), some (.tup (L.map nV)), some (.ref p), none, none]) (H := h ++ remH p n f B B) (q_tup rfl) (fun x hx => ⟨_, rfl, fun acc => q_tup (tupM_ok (consA_ok rfl (consA_ok rfl r_nil)) (by decide)), fun w hw => ⟨_, rfl, fun acc => ⟨?_, fun _ => tupM_ok (consA_ok rfl (consA_ok rfl r_nil)) (by simp)⟩⟩⟩) (by rw [flt_len]; omega) (fun _ _ _ _ => rfl)
  · refine cut_p (os := remH p n f B B ++ [.dead]) (defM_ret rfl ?_) (cloL_map fun _ => rfl)
    show m_strikes_of [some (ordV n (prs n f)), some (.tup (L.map nV)), none, none, none] h = _
    unfold m_strikes_of
    refine (seq_nx (setS_ok mk)).trans (retS_ok ?_)
    have := r_tupf fz
    rw [List.append_assoc] at this
    refine this.trans ?_
    unfold soL
    rw [List.map_flatMap]
    simp only [List.map_map]
    rfl
  · refine r_notnone (r_meth (l := p) (fs := remF p n) rfl ?_ rfl (consA_ok rfl (consA_ok rfl r_nil)) ?_)
    · rw [List.append_assoc]
      exact rem_obj hp
    · rw [List.append_assoc]
      show noex (f_Remainder_find_partner [.ref p, .int (x : Int), .str w] _) = _
      rw [find_partner hp fun _ h => h]
      rfl
end
end Mi.rem
set_option maxHeartbeats 2000000
namespace Mi.k18
open PySem L2
noncomputable section
def b1_Remainder___init__ : MT := (wipT [5] (subS (cM (.bl true)) (fldM "Remainder" "left" (varM 0)) (varM 5)))
def b2_Remainder___init__ : MT := (wipT [7, 8] (ifS (andT (truM (opM ixF (fldM "Remainder" "left" (varM 0)) (varM 7))) (truM (opM ixF (fldM "Remainder" "left" (varM 0)) (varM 8)))) (seqS (dropS (mthM appF (opM ixF (fldM "Remainder" "unders" (varM 0)) (varM 8)) (consA (varM 7) nilA)))
    (dropS (mthM appF (opM ixF (fldM "Remainder" "overs" (varM 0)) (varM 7)) (consA (varM 8) nilA)))) nilS))
def m_Remainder___init__ : MT := (seqS (asgS (unp [3, 4]) (varM 1))
    (seqS (fldS "Remainder" "left" (refM (repL (flsM (lstM (consA (cM (.bl false)) nilA))) (varM 3))) (varM 0))
    (seqS (preW [5] (forM (seqI (varM 2)) (one 5) b1_Remainder___init__))
    (seqS (fldS "Remainder" "unders" (refM (lcM (rng1 (consA (varM 3) nilA)) [6] (one 6) yesT (refM (lstM nilA)))) (varM 0))
    (seqS (fldS "Remainder" "overs" (refM (lcM (rng1 (consA (varM 3) nilA)) [6] (one 6) yesT (refM (lstM nilA)))) (varM 0))
    (seqS (preW [7, 8] (forM (seqI (varM 4)) (unp [7, 8]) b2_Remainder___init__))
    (seqS (fldS "Remainder" "under_counts" (refM (lcM (seqI (fldM "Remainder" "unders" (varM 0))) [9] (one 9) yesT (bltM lenF (consA (varM 9) nilA)))) (varM 0))
    (fldS "Remainder" "over_counts" (refM (lcM (seqI (fldM "Remainder" "overs" (varM 0))) [9] (one 9) yesT (bltM lenF (consA (varM 9) nilA)))) (varM 0)))))))))
def f_Remainder___init__ : MF := defM 3 10 m_Remainder___init__
theorem n_Remainder___init__ : ∀ (xs : List MV) (h : MH), (f_Remainder___init__ xs h).isSome = true → xs.length = 3 := fun _ _ e => defM_len e
def b1_Remainder_find_partner : MT := (wipT [5] (ifS (andT (truM (opM ixF (fldM "Remainder" "left" (varM 0)) (varM 5))) (tstM (opM eqF (opM ixF (varM 4) (varM 5)) (opM subF (opM ixF (varM 4) (varM 1)) (cM (.int 1)))))) (retS (varM 5)) nilS))
def m_Remainder_find_partner : MT := (seqS (ifS (orT (notT (tstM (chainM leF ltF (cM (.int 0)) (varM 1) (bltM lenF (consA (fldM "Remainder" "left" (varM 0)) nilA))))) (notT (truM (opM ixF (fldM "Remainder" "left" (varM 0)) (varM 1))))) (retS (cM .non)) nilS)
    (seqS (ifS (tstM (opM eqF (varM 2) (cM (.str "down")))) (parS 3 4 (consA (opM ixF (fldM "Remainder" "unders" (varM 0)) (varM 1)) (consA (fldM "Remainder" "under_counts" (varM 0)) nilA))) (parS 3 4 (consA (opM ixF (fldM "Remainder" "overs" (varM 0)) (varM 1)) (consA (fldM "Remainder" "over_counts" (varM 0)) nilA))))
    (seqS (preW [5] (forM (seqI (varM 3)) (one 5) b1_Remainder_find_partner))
    (retS (cM .non)))))
def f_Remainder_find_partner : MF := defM 3 6 m_Remainder_find_partner
theorem n_Remainder_find_partner : ∀ (xs : List MV) (h : MH), (f_Remainder_find_partner xs h).isSome = true → xs.length = 3 := fun _ _ e => defM_len e
def m_strikes_of : MT := (seqS (setS 2 (makM noex "Remainder" f_Remainder___init__ [] (consA (varM 0) (consA (varM 1) nilA))))
    (retS (bltM tupF (consA (frzM (lc2M (seqI (varM 1)) [3, 4] (one 3) yesT (seqI (tupM (consA (cM (.str "down")) (consA (cM (.str "up")) nilA)))) [4] (one 4) (tstM (opM notF (methM noex "Remainder" "find_partner" f_Remainder_find_partner [] (varM 2) (consA (varM 3) (consA (varM 4) nilA))) (cM .non))) (tupM (consA (varM 3) (consA (varM 4) nilA))))) nilA))))
def f_strikes_of : MF := cutF (defM 2 5 m_strikes_of)
theorem n_strikes_of : ∀ (xs : List MV) (h : MH), (f_strikes_of xs h).isSome = true → xs.length = 2 := cut_len fun _ _ e => defM_len e
def m_law_mixed : MT := (seqS (setS 2 (opM modF (bltM intF (consA (opM addF (opM addF (opM mulF (varM 0) (cM (.int 48271))) (opM mulF (varM 1) (cM (.int 69621)))) (cM (.int 97))) nilA)) (cM (.int 2147483647))))
    (seqS (setS 3 (opM modF (bltM intF (consA (opM addF (opM addF (opM mulF (varM 2) (opM addF (opM addF (varM 2) (opM mulF (cM (.int 2)) (varM 1))) (cM (.int 1)))) (opM mulF (varM 1) (cM (.int 16807)))) (cM (.int 31))) nilA)) (cM (.int 2147483629))))
    (retS (opM modF (bltM intF (consA (opM addF (opM mulF (varM 3) (cM (.int 40692))) (varM 2)) nilA)) (cM (.int 2147483587))))))
def f_law_mixed : MF := defM 2 4 m_law_mixed
theorem n_law_mixed : ∀ (xs : List MV) (h : MH), (f_law_mixed xs h).isSome = true → xs.length = 2 := fun _ _ e => defM_len e
def b1_law_start : MT := (wipT [2] (setS 1 (callM f_law_mixed [] (consA (opM addF (varM 1) (varM 2)) (consA (cM (.int 5)) nilA)))))
def m_law_start : MT := (seqS (setS 1 (bltM lenF (consA (varM 0) nilA)))
    (seqS (preW [2] (forM (seqI (varM 0)) (one 2) b1_law_start))
    (retS (refM (lstM (consA (cM (.int 0)) (consA (cM (.int 0)) (consA (cM (.int 0)) (consA (varM 1) (consA (flsM (bltL lstF (consA (varM 0) nilA))) (consA (cM (.int 0)) nilA)))))))))))
def f_law_start : MF := defM 1 3 m_law_start
theorem n_law_start : ∀ (xs : List MV) (h : MH), (f_law_start xs h).isSome = true → xs.length = 1 := fun _ _ e => defM_len e
def m_law_take : MT := (seqS (setS 2 (opM ixF (varM 0) (cM (.int 4))))
    (seqS (subS (opM addF (opM ixF (varM 0) (cM (.int 2))) (cM (.int 1))) (varM 0) (cM (.int 2)))
    (seqS (ifS (tstM (opM eqF (opM ixF (varM 0) (cM (.int 0))) (cM (.int 0)))) (seqS (ifS (tstM (opM eqF (opM ixF (varM 0) (cM (.int 1))) (bltM lenF (consA (varM 2) nilA)))) (retS (opM modF (callM f_law_mixed [] (consA (opM ixF (varM 0) (cM (.int 3))) (consA (opM ixF (varM 0) (cM (.int 2))) nilA))) (varM 1))) nilS)
    (seqS (setS 3 (opM ixF (varM 2) (opM ixF (varM 0) (cM (.int 1)))))
    (seqS (subS (opM addF (opM ixF (varM 0) (cM (.int 1))) (cM (.int 1))) (varM 0) (cM (.int 1)))
    (seqS (ifS (tstM (opM eqF (opM modF (bltM intF (consA (varM 3) nilA)) (cM (.int 2))) (cM (.int 1)))) (retS (opM modF (callM f_law_mixed [] (consA (varM 3) (consA (opM ixF (varM 0) (cM (.int 2))) nilA))) (varM 1))) nilS)
    (seqS (subS (opM divF (bltM absF (consA (varM 3) nilA)) (cM (.int 2))) (varM 0) (cM (.int 0)))
    (subS (cM (.int 60)) (varM 0) (cM (.int 5)))))))) nilS)
    (seqS (setS 4 (opM modF (bltM intF (consA (opM ixF (varM 0) (cM (.int 0))) nilA)) (varM 1)))
    (seqS (subS (opM subF (opM ixF (varM 0) (cM (.int 5))) (cM (.int 1))) (varM 0) (cM (.int 5)))
    (seqS (subS (opM mulF (opM divF (opM ixF (varM 0) (cM (.int 0))) (varM 1)) (bltM intF (consA (opM gtF (opM ixF (varM 0) (cM (.int 5))) (cM (.int 0))) nilA))) (varM 0) (cM (.int 0)))
    (retS (varM 4))))))))
def f_law_take : MF := defM 2 5 m_law_take
theorem n_law_take : ∀ (xs : List MV) (h : MH), (f_law_take xs h).isSome = true → xs.length = 2 := fun _ _ e => defM_len e
def b1_law_same (r : MF) : MT := (wipT [2] (ifS (notT (truM (callM r [] (consA (opM ixF (varM 0) (varM 2)) (consA (opM ixF (varM 1) (varM 2)) nilA))))) (retS (cM (.bl false))) nilS))
def m_law_same (r : MF) : MT := (seqS (ifS (tstM (opM isF (varM 1) (cM .non))) (retS (opM isF (varM 0) (cM .non))) nilS)
    (seqS (ifS (truM (isiM [.bool] (varM 1))) (retS (andV (isiM [.bool] (varM 0)) (opM eqF (varM 0) (varM 1)))) nilS)
    (seqS (ifS (truM (isiM [.int] (varM 1))) (retS (andV (isiM [.int] (varM 0)) (andV (notV (isiM [.bool] (varM 0))) (opM eqF (varM 0) (varM 1))))) nilS)
    (seqS (ifS (truM (isiM [.str] (varM 1))) (retS (andV (isiM [.str] (varM 0)) (opM eqF (varM 0) (varM 1)))) nilS)
    (seqS (ifS (orT (tstM (opM neF (isiM [.list] (varM 1)) (isiM [.list] (varM 0)))) (tstM (opM neF (isiM [.tuple] (varM 1)) (isiM [.tuple] (varM 0))))) (retS (cM (.bl false))) nilS)
    (seqS (ifS (tstM (opM neF (bltM lenF (consA (varM 0) nilA)) (bltM lenF (consA (varM 1) nilA)))) (retS (cM (.bl false))) nilS)
    (seqS (preW [2] (forM (rng1 (consA (bltM lenF (consA (varM 1) nilA)) nilA)) (one 2) (b1_law_same r)))
    (retS (cM (.bl true))))))))))
def fr_law_same : Nat → MF
  | 0 => fun _ _ => none
  | k + 1 => defM 2 3 (m_law_same (fr_law_same k))
def f_law_same : MF := fr_law_same 6
theorem nr_law_same : ∀ (k : Nat) (xs : List MV) (h : MH), (fr_law_same k xs h).isSome = true → xs.length = 2
  | 0, _, _, e => by cases e
  | _ + 1, _, _, e => defM_len e
theorem n_law_same : ∀ (xs : List MV) (h : MH), (f_law_same xs h).isSome = true → xs.length = 2 := nr_law_same _
def m_law_mingled : MT := (seqS (setS 2 (refM (rgL (varM 1))))
    (retS (flsM (lcM (rng1 (consA (varM 1) nilA)) [3] (one 3) yesT (mthM popAtF (varM 2) (consA (callM f_law_take [] (consA (varM 0) (consA (bltM lenF (consA (varM 2) nilA)) nilA))) nilA))))))
def f_law_mingled : MF := cutF (defM 2 4 m_law_mingled)
theorem n_law_mingled : ∀ (xs : List MV) (h : MH), (f_law_mingled xs h).isSome = true → xs.length = 2 := cut_len fun _ _ e => defM_len e
def b1_law_any : MT := (wipT [9] (subS (orV (opM ixF (varM 7) (varM 9)) (opM ixF (opM ixF (varM 3) (opM ixF (varM 2) (varM 8))) (varM 9))) (varM 7) (varM 9)))
def b2_law_any : MT := (wipT [8, 9] (ifS (tstM (opM eqF (callM f_law_take [] (consA (varM 0) (consA (varM 5) nilA))) (cM (.int 0)))) (seqS (subS (cM (.bl true)) (varM 7) (opM ixF (varM 2) (varM 8)))
    (preW [9] (forM (rng1 (consA (varM 1) nilA)) (one 9) b1_law_any))) nilS))
def b3_law_any : MT := (wipT [6, 7, 8, 9] (seqS (setS 7 (opM ixF (varM 3) (opM ixF (varM 2) (varM 6))))
    (preW [8, 9] (forM (rng2 (consA (opM addF (varM 6) (cM (.int 1))) (consA (varM 1) nilA))) (one 8) b2_law_any))))
def m_law_any : MT := (seqS (setS 2 (callM f_law_mingled [] (consA (varM 0) (consA (varM 1) nilA))))
    (seqS (setS 3 (refM (lcM (rng1 (consA (varM 1) nilA)) [4] (one 4) yesT (refM (repL (flsM (lstM (consA (cM (.bl false)) nilA))) (varM 1))))))
    (seqS (setS 5 (opM ixF (flsM (lstM (consA (cM (.int 2)) (consA (cM (.int 3)) (consA (cM (.int 4)) (consA (cM (.int 7)) nilA)))))) (callM f_law_take [] (consA (varM 0) (consA (cM (.int 4)) nilA)))))
    (seqS (preW [6, 7, 8, 9] (forM (rng3 (consA (opM subF (varM 1) (cM (.int 1))) (consA (unM negF (cM (.int 1))) (consA (unM negF (cM (.int 1))) nilA)))) (one 6) b3_law_any))
    (retS (frzM (varM 3)))))))
def f_law_any : MF := cutF (defM 2 10 m_law_any)
theorem n_law_any : ∀ (xs : List MV) (h : MH), (f_law_any xs h).isSome = true → xs.length = 2 := cut_len fun _ _ e => defM_len e
def b1_law_levels : MT := (wipT [2] (setS 1 (flsM (catL (varM 1) (flsM (repL (flsM (lstM (consA (varM 2) nilA))) (opM ixF (flsM (lstM (consA (cM (.int 1)) (consA (cM (.int 2)) (consA (cM (.int 2)) (consA (cM (.int 3)) nilA)))))) (callM f_law_take [] (consA (varM 0) (consA (cM (.int 4)) nilA))))))))))
def m_law_levels : MT := (seqS (setS 1 (flsM (lstM nilA)))
    (seqS (preW [2] (forM (rng1 (consA (opM addF (cM (.int 1)) (callM f_law_take [] (consA (varM 0) (consA (cM (.int 4)) nilA)))) nilA)) (one 2) b1_law_levels))
    (retS (flsM (lcM (seqI (varM 1)) [4] (one 4) yesT (flsM (lcM (seqI (varM 1)) [3] (one 3) yesT (opM ltF (varM 4) (varM 3)))))))))
def f_law_levels : MF := defM 1 5 m_law_levels
theorem n_law_levels : ∀ (xs : List MV) (h : MH), (f_law_levels xs h).isSome = true → xs.length = 1 := fun _ _ e => defM_len e
def b1_law_ring : MT := (wipT [4, 5] (seqS (setS 5 (opM ixF (varM 1) (varM 4)))
    (subS (cM (.bl true)) (varM 5) (opM addF (varM 0) (varM 3)))))
def b2_law_ring : MT := (wipT [3, 4, 5] (preW [4, 5] (forM (seqI (tupM (consA (varM 3) (consA (opM modF (bltM intF (consA (opM addF (varM 3) (cM (.int 1))) nilA)) (varM 0)) nilA)))) (one 4) b1_law_ring)))
def m_law_ring : MT := (seqS (setS 1 (refM (lcM (rng1 (consA (opM mulF (cM (.int 2)) (varM 0)) nilA)) [2] (one 2) yesT (refM (repL (flsM (lstM (consA (cM (.bl false)) nilA))) (opM mulF (cM (.int 2)) (varM 0)))))))
    (seqS (preW [3, 4, 5] (forM (rng1 (consA (varM 0) nilA)) (one 3) b2_law_ring))
    (retS (frzM (varM 1)))))
def f_law_ring : MF := cutF (defM 1 6 m_law_ring)
theorem n_law_ring : ∀ (xs : List MV) (h : MH), (f_law_ring xs h).isSome = true → xs.length = 1 := cut_len fun _ _ e => defM_len e
def b1_law_grown : MT := (wipT [10] (ifS (andT (truM (opM ixF (opM ixF (varM 1) (varM 6)) (varM 10))) (tstM (opM eqF (callM f_law_take [] (consA (varM 0) (consA (cM (.int 3)) nilA))) (cM (.int 0))))) (setS 8 (flsM (lcM (rng1 (consA (varM 5) nilA)) [11] (one 11) yesT (orV (opM ixF (varM 8) (varM 11)) (orV (opM eqF (varM 11) (varM 10)) (opM ixF (opM ixF (varM 1) (varM 10)) (varM 11))))))) nilS))
def b2_law_grown : MT := (wipT [10] (ifS (andT (truM (opM ixF (opM ixF (varM 1) (varM 10)) (varM 6))) (tstM (opM eqF (callM f_law_take [] (consA (varM 0) (consA (cM (.int 3)) nilA))) (cM (.int 0))))) (setS 7 (flsM (lcM (rng1 (consA (varM 5) nilA)) [11] (one 11) yesT (orV (opM ixF (varM 7) (varM 11)) (orV (opM eqF (varM 11) (varM 10)) (opM ixF (opM ixF (varM 1) (varM 11)) (varM 10))))))) nilS))
def b3_law_grown : MT := (wipT [4, 5, 6, 7, 8, 10] (seqS (setS 5 (bltM lenF (consA (varM 1) nilA)))
    (seqS (setS 6 (callM f_law_take [] (consA (varM 0) (consA (bltM max2F (consA (cM (.int 1)) (consA (varM 5) nilA))) nilA))))
    (seqS (setS 7 (flsM (repL (flsM (lstM (consA (cM (.bl false)) nilA))) (varM 5))))
    (seqS (setS 8 (flsM (repL (flsM (lstM (consA (cM (.bl false)) nilA))) (varM 5))))
    (seqS (dropS (mthM appF (varM 3) (consA (cM (.str "")) nilA)))
    (seqS (ifS (andT (tstM (opM gtF (varM 5) (cM (.int 0)))) (tstM (opM eqF (callM f_law_take [] (consA (varM 0) (consA (cM (.int 2)) nilA))) (cM (.int 0))))) (seqS (subS (cM (.str "down")) (varM 3) (unM negF (cM (.int 1))))
    (seqS (setS 7 (flsM (lcM (rng1 (consA (varM 5) nilA)) [9] (one 9) yesT (orV (opM eqF (varM 9) (varM 6)) (opM ixF (opM ixF (varM 1) (varM 9)) (varM 6))))))
    (preW [10] (forM (rng1 (consA (varM 5) nilA)) (one 10) b1_law_grown)))) (ifS (tstM (opM gtF (varM 5) (cM (.int 0)))) (seqS (subS (cM (.str "up")) (varM 3) (unM negF (cM (.int 1))))
    (seqS (setS 8 (flsM (lcM (rng1 (consA (varM 5) nilA)) [9] (one 9) yesT (orV (opM eqF (varM 9) (varM 6)) (opM ixF (opM ixF (varM 1) (varM 6)) (varM 9))))))
    (preW [10] (forM (rng1 (consA (varM 5) nilA)) (one 10) b2_law_grown)))) nilS))
    (setS 1 (flsM (catL (flsM (lcM (rng1 (consA (varM 5) nilA)) [9] (one 9) yesT (flsM (catL (opM ixF (varM 1) (varM 9)) (flsM (lstM (consA (opM ixF (varM 7) (varM 9)) nilA))))))) (flsM (lstM (consA (flsM (catL (varM 8) (flsM (lstM (consA (cM (.bl false)) nilA))))) nilA)))))))))))))
def m_law_grown : MT := (seqS (preW [4, 5, 6, 7, 8, 10] (forM (rng1 (consA (varM 2) nilA)) (one 4) b3_law_grown))
    (retS (varM 1)))
def f_law_grown : MF := defM 4 12 m_law_grown
theorem n_law_grown : ∀ (xs : List MV) (h : MH), (f_law_grown xs h).isSome = true → xs.length = 4 := fun _ _ e => defM_len e
def m_law_drawn : MT := (seqS (setS 1 (callM f_law_take [] (consA (varM 0) (consA (cM (.int 5)) nilA))))
    (seqS (ifS (tstM (opM eqF (varM 1) (cM (.int 0)))) (setS 2 (callM f_law_ring [] (consA (opM addF (cM (.int 2)) (callM f_law_take [] (consA (varM 0) (consA (cM (.int 4)) nilA)))) nilA))) (ifS (tstM (opM eqF (varM 1) (cM (.int 1)))) (setS 2 (callM f_law_levels [] (consA (varM 0) nilA))) (setS 2 (callM f_law_any [] (consA (varM 0) (consA (callM f_law_take [] (consA (varM 0) (consA (cM (.int 10)) nilA))) nilA))))))
    (seqS (ifS (tstM (opM eqF (callM f_law_take [] (consA (varM 0) (consA (cM (.int 2)) nilA))) (cM (.int 0)))) (setS 2 (callM f_law_grown [] (consA (varM 0) (consA (varM 2) (consA (opM addF (cM (.int 1)) (callM f_law_take [] (consA (varM 0) (consA (cM (.int 4)) nilA)))) (consA (refM (lstM nilA)) nilA)))))) nilS)
    (seqS (setS 3 (callM f_law_mingled [] (consA (varM 0) (consA (bltM lenF (consA (varM 2) nilA)) nilA))))
    (retS (flsM (lcM (seqI (varM 3)) [5] (one 5) yesT (flsM (lcM (seqI (varM 3)) [4] (one 4) yesT (opM ixF (opM ixF (varM 2) (varM 5)) (varM 4)))))))))))
def f_law_drawn : MF := cutF (defM 1 6 m_law_drawn)
theorem n_law_drawn : ∀ (xs : List MV) (h : MH), (f_law_drawn xs h).isSome = true → xs.length = 1 := cut_len fun _ _ e => defM_len e
def b1_law_order : MT := (wipT [2] (setS 1 (flsM (catL (varM 1) (flsM (lcM (rng1 (consA (bltM lenF (consA (varM 0) nilA)) nilA)) [3] (one 3) (truM (opM ixF (opM ixF (varM 0) (varM 2)) (varM 3))) (tupM (consA (varM 2) (consA (varM 3) nilA)))))))))
def m_law_order : MT := (seqS (setS 1 (flsM (lstM nilA)))
    (seqS (preW [2] (forM (rng1 (consA (bltM lenF (consA (varM 0) nilA)) nilA)) (one 2) b1_law_order))
    (retS (tupM (consA (bltM lenF (consA (varM 0) nilA)) (consA (bltM tupF (consA (varM 1) nilA)) nilA))))))
def f_law_order : MF := defM 1 4 m_law_order
theorem n_law_order : ∀ (xs : List MV) (h : MH), (f_law_order xs h).isSome = true → xs.length = 1 := fun _ _ e => defM_len e
def b1_law_strikes : MT := (wipT [4] (seqS (dputS (bltM lenF (consA (flsM (lcM (seqI (varM 1)) [5] (one 5) (truM (opM ixF (opM ixF (varM 0) (varM 5)) (varM 4))) (varM 5))) nilA)) (varM 2) (varM 4))
    (dputS (bltM lenF (consA (flsM (lcM (seqI (varM 1)) [5] (one 5) (truM (opM ixF (opM ixF (varM 0) (varM 4)) (varM 5))) (varM 5))) nilA)) (varM 3) (varM 4))))
def b2_law_strikes : MT := (wipT [4] (seqS (setS 6 (flsM (catL (varM 6) (flsM (lcM (seqI (varM 1)) [5] (one 5) (andT (truM (opM ixF (opM ixF (varM 0) (varM 5)) (varM 4))) (tstM (opM eqF (opM dgetF (varM 2) (varM 5)) (opM subF (opM dgetF (varM 2) (varM 4)) (cM (.int 1)))))) (tupM (consA (varM 4) (consA (cM (.str "down")) (consA (varM 5) nilA)))))))))
    (setS 6 (flsM (catL (varM 6) (flsM (lcM (seqI (varM 1)) [5] (one 5) (andT (truM (opM ixF (opM ixF (varM 0) (varM 4)) (varM 5))) (tstM (opM eqF (opM dgetF (varM 3) (varM 5)) (opM subF (opM dgetF (varM 3) (varM 4)) (cM (.int 1)))))) (tupM (consA (varM 4) (consA (cM (.str "up")) (consA (varM 5) nilA)))))))))))
def m_law_strikes : MT := (seqS (setS 2 dnewM)
    (seqS (setS 3 dnewM)
    (seqS (preW [4] (forM (seqI (varM 1)) (one 4) b1_law_strikes))
    (seqS (setS 6 (flsM (lstM nilA)))
    (seqS (preW [4] (forM (seqI (varM 1)) (one 4) b2_law_strikes))
    (retS (varM 6)))))))
def f_law_strikes : MF := cutF (defM 2 7 m_law_strikes)
theorem n_law_strikes : ∀ (xs : List MV) (h : MH), (f_law_strikes xs h).isSome = true → xs.length = 2 := cut_len fun _ _ e => defM_len e
def m_law_due : MT := (retS (bltM tupF (consA (flsM (lcM (seqI (callM f_law_strikes [] (consA (varM 0) (consA (varM 1) nilA)))) [2] (one 2) yesT (tupM (consA (opM ixF (varM 2) (cM (.int 0))) (consA (opM ixF (varM 2) (cM (.int 1))) nilA))))) nilA)))
def f_law_due : MF := defM 2 3 m_law_due
theorem n_law_due : ∀ (xs : List MV) (h : MH), (f_law_due xs h).isSome = true → xs.length = 2 := fun _ _ e => defM_len e
def m_law_is_told : MT := (retS (callM f_law_same [] (consA (callM f_strikes_of [] (consA (varM 0) (consA (bltM tupF (consA (varM 2) nilA)) nilA))) (consA (callM f_law_due [] (consA (varM 1) (consA (varM 2) nilA))) nilA))))
def f_law_is_told : MF := defM 3 3 m_law_is_told
theorem n_law_is_told : ∀ (xs : List MV) (h : MH), (f_law_is_told xs h).isSome = true → xs.length = 3 := fun _ _ e => defM_len e
def m_law_apart : MT := (seqS (setS 2 (opM addF (cM (.int 24)) (callM f_law_take [] (consA (varM 0) (consA (cM (.int 41)) nilA)))))
    (seqS (setS 1 (flsM (catL (flsM (lcM (seqI (varM 1)) [3] (one 3) yesT (flsM (catL (varM 3) (flsM (repL (flsM (lstM (consA (cM (.bl false)) nilA))) (opM subF (varM 2) (bltM lenF (consA (varM 1) nilA))))))))) (flsM (lcM (rng1 (consA (opM subF (varM 2) (bltM lenF (consA (varM 1) nilA))) nilA)) [4] (one 4) yesT (flsM (repL (flsM (lstM (consA (cM (.bl false)) nilA))) (varM 2))))))))
    (seqS (setS 5 (callM f_law_mingled [] (consA (varM 0) (consA (varM 2) nilA))))
    (retS (flsM (lcM (seqI (varM 5)) [4] (one 4) yesT (flsM (lcM (seqI (varM 5)) [6] (one 6) yesT (opM ixF (opM ixF (varM 1) (varM 4)) (varM 6))))))))))
def f_law_apart : MF := defM 2 7 m_law_apart
theorem n_law_apart : ∀ (xs : List MV) (h : MH), (f_law_apart xs h).isSome = true → xs.length = 2 := fun _ _ e => defM_len e
def b1_law : MT := (wipT [7, 8, 9] (seqS (ifS (notT (truM (callM f_law_is_told [] (consA (varM 5) (consA (varM 4) (consA (varM 6) nilA)))))) (retS (cM (.bl false))) nilS)
    (seqS (setS 8 (callM f_law_strikes [] (consA (varM 4) (consA (varM 6) nilA))))
    (seqS (ifS (tstM (opM eqF (varM 8) (flsM (lstM nilA)))) brkS nilS)
    (seqS (setS 9 (opM ixF (opM ixF (varM 8) (callM f_law_take [] (consA (varM 1) (consA (bltM lenF (consA (varM 8) nilA)) nilA)))) (cM (.int 0))))
    (setS 6 (flsM (lcM (seqI (varM 6)) [10] (one 10) (tstM (opM neF (varM 10) (varM 9))) (varM 10)))))))))
def b2_law : MT := (wipT [3, 7, 8, 9] (seqS (setS 4 (callM f_law_drawn [] (consA (varM 1) nilA)))
    (seqS (setS 5 (callM f_law_order [] (consA (varM 4) nilA)))
    (seqS (setS 6 (flsM (rgL (bltM lenF (consA (varM 4) nilA)))))
    (seqS (dropS (mthM appF (varM 2) (consA (flsM (lstM (consA (varM 5) (consA (varM 4) (consA (varM 6) nilA))))) nilA)))
    (seqS (preW [7, 8, 9] (forM (rng1 (consA (opM addF (cM (.int 1)) (callM f_law_take [] (consA (varM 1) (consA (cM (.int 6)) nilA)))) nilA)) (one 7) b1_law))
    (seqS (ifS (notT (truM (callM f_law_is_told [] (consA (varM 5) (consA (varM 4) (consA (varM 6) nilA)))))) (retS (cM (.bl false))) nilS)
    (ifS (notT (truM (callM f_law_is_told [] (consA (varM 5) (consA (varM 4) (consA (flsM (lcM (rng1 (consA (bltM lenF (consA (varM 4) nilA)) nilA)) [9] (one 9) (tstM (opM gtF (callM f_law_take [] (consA (varM 1) (consA (cM (.int 3)) nilA))) (cM (.int 0)))) (varM 9))) nilA)))))) (retS (cM (.bl false))) nilS))))))))
def b3_law : MT := (ifS (notT (truM (callM f_law_is_told [] (consA (varM 5) (consA (varM 4) (consA (varM 6) nilA)))))) (retS (cM (.bl false))) nilS)
def m_law : MT := (seqS (setS 1 (callM f_law_start [] (consA (varM 0) nilA)))
    (seqS (setS 2 (refM (lstM nilA)))
    (seqS (preW [3, 7, 8, 9] (forM (rng1 (consA (cM (.int 2)) nilA)) (one 3) b2_law))
    (seqS (forM (seqI (varM 2)) (unpL [5, 4, 6]) b3_law)
    (seqS (ifS (tstM (opM eqF (callM f_law_take [] (consA (varM 1) (consA (cM (.int 12)) nilA))) (cM (.int 0)))) (seqS (setS 4 (callM f_law_apart [] (consA (varM 1) (consA (varM 4) nilA))))
    (seqS (setS 11 (opM ixF (flsM (lstM (consA (cM (.int 1)) (consA (cM (.int 9)) nilA)))) (callM f_law_take [] (consA (varM 1) (consA (cM (.int 2)) nilA)))))
    (ifS (notT (truM (callM f_law_is_told [] (consA (callM f_law_order [] (consA (varM 4) nilA)) (consA (varM 4) (consA (flsM (lcM (rng1 (consA (bltM lenF (consA (varM 4) nilA)) nilA)) [9] (one 9) (orT (tstM (opM eqF (varM 11) (cM (.int 1)))) (tstM (opM gtF (callM f_law_take [] (consA (varM 1) (consA (varM 11) nilA))) (cM (.int 0))))) (varM 9))) nilA)))))) (retS (cM (.bl false))) nilS))) nilS)
    (seqS (setS 6 (flsM (lcM (seqI (varM 6)) [9] (one 9) (tstM (opM gtF (callM f_law_take [] (consA (varM 1) (consA (cM (.int 4)) nilA))) (cM (.int 0)))) (varM 9))))
    (retS (callM f_law_same [] (consA (callKM f_strikes_of 0 2 [1, 0] [] nilA (consA (bltM tupF (consA (varM 6) nilA)) (consA (varM 5) nilA))) (consA (callM f_law_due [] (consA (opM ixF (opM ixF (varM 2) (cM (.int 1))) (cM (.int 1))) (consA (varM 6) nilA))) nilA))))))))))
def f_law : MF := defM 1 12 m_law
theorem n_law : ∀ (xs : List MV) (h : MH), (f_law xs h).isSome = true → xs.length = 1 := fun _ _ e => defM_len e
end
end Mi.k18
set_option maxHeartbeats 4000000
namespace Mi.k18
open PySem L2
/-- the source: one list at place 0 -/
def St (S : MH) : Prop := ∃ (cs : List Int) (p : Nat) (r t sd l : Int), S = [MO.lst [.int r, nV p, .int t, .int sd, .fls (cs.map MV.int), .int l]] ∧ cs.length ≤ 63 ∧ p ≤ cs.length
theorem St.len {S : MH} (h : St S) : S.length = 1 := by
  obtain ⟨_, _, _, _, _, _, e, _⟩ := h
  rw [e]
  rfl
theorem clo_ints {n : Nat} {cs : List Int} : cloL n (cs.map MV.int) = true := cloL_map fun _ => rfl
theorem St.self {S : MH} (h : St S) : Self S := by
  obtain ⟨cs, p, r, t, sd, l, e, _⟩ := h
  subst e
  intro o ho
  rw [List.mem_singleton.mp ho]
  simp [cloO, cloL, cloV, clo_ints]
theorem mixed {a t : Int} {h : MH} : ∃ d : Int, f_law_mixed [.int a, .int t] h = ok (.int d) h := by
  have m1 : ∀ x : Int, mulOk x 48271 := fun x => .inr ⟨by omega, by omega⟩
  have m2 : ∀ x : Int, mulOk x 69621 := fun x => .inr ⟨by omega, by omega⟩
  have m3 : ∀ x y : Int, mulOk (x % 2147483647) y := fun x y => .inl ⟨by omega, by omega⟩
  have m4 : ∀ x : Int, mulOk x 16807 := fun x => .inr ⟨by omega, by omega⟩
  have m5 : ∀ x : Int, mulOk x 40692 := fun x => .inr ⟨by omega, by omega⟩
  have m6 : ∀ x : Int, mulOk 2 x := fun x => .inl ⟨by omega, by omega⟩
  simp [f_law_mixed, m_law_mixed, m1, m2, m3, m4, m5, m6]
theorem take {S os : MH} {m : Nat} (hS : St S) (hm : 0 < m) (hm2 : m < 1000000) : ∃ (d : Nat) (S' : MH), f_law_take [.ref 0, nV m] (S ++ os) = ok (nV d) (S' ++ os) ∧ d < m ∧ St S' := by
  obtain ⟨cs, p, r, t, sd, l, e, hl, hp⟩ := hS
  subst e
  have nat : ∀ x : Int, ∃ d : Nat, x % (m : Int) = (d : Int) ∧ d < m := fun x => ⟨(x % (m : Int)).toNat, by
    have := Int.emod_nonneg x (show (m : Int) ≠ 0 by omega)
    omega, by
    have := Int.emod_nonneg x (show (m : Int) ≠ 0 by omega)
    have := Int.emod_lt_of_pos x (show 0 < (m : Int) by omega)
    omega⟩
  have hm3 : (m : Int) < 1073741824 := by omega
  have hl2 : cs.length ≤ lim := by unfold lim; omega
  have mu : ∀ (x : Int) (b : Bool), mulOk x (if b = true then 1 else 0) := fun x b => .inr (by cases b <;> simp)
  have tail : ∀ (q : Nat) (r' l' : Int), q ≤ cs.length → ∃ (d : Nat) (S' : MH), (seqS (setS 4 (opM modF (bltM intF (consA (opM ixF (varM 0) (cM (.int 0))) nilA)) (varM 1)))
      (seqS (subS (opM subF (opM ixF (varM 0) (cM (.int 5))) (cM (.int 1))) (varM 0) (cM (.int 5)))
      (seqS (subS (opM mulF (opM divF (opM ixF (varM 0) (cM (.int 0))) (varM 1)) (bltM intF (consA (opM gtF (opM ixF (varM 0) (cM (.int 5))) (cM (.int 0))) nilA))) (varM 0) (cM (.int 0)))
      (retS (varM 4))))) = (seqS (setS 4 (opM modF (bltM intF (consA (opM ixF (varM 0) (cM (.int 0))) nilA)) (varM 1)))
      (seqS (subS (opM subF (opM ixF (varM 0) (cM (.int 5))) (cM (.int 1))) (varM 0) (cM (.int 5)))
      (seqS (subS (opM mulF (opM divF (opM ixF (varM 0) (cM (.int 0))) (varM 1)) (bltM intF (consA (opM gtF (opM ixF (varM 0) (cM (.int 5))) (cM (.int 0))) nilA))) (varM 0) (cM (.int 0)))
      (retS (varM 4))))) ∧ (∀ x3 : Option MV, (seqS (setS 4 (opM modF (bltM intF (consA (opM ixF (varM 0) (cM (.int 0))) nilA)) (varM 1)))
      (seqS (subS (opM subF (opM ixF (varM 0) (cM (.int 5))) (cM (.int 1))) (varM 0) (cM (.int 5)))
      (seqS (subS (opM mulF (opM divF (opM ixF (varM 0) (cM (.int 0))) (varM 1)) (bltM intF (consA (opM gtF (opM ixF (varM 0) (cM (.int 5))) (cM (.int 0))) nilA))) (varM 0) (cM (.int 0)))
      (retS (varM 4))))) [some (.ref 0), some (nV m), some (.fls (cs.map MV.int)), x3, none] ([MO.lst [.int r', nV q, .int (t + 1), .int sd, .fls (cs.map MV.int), .int l']] ++ os) = some (.ret (nV d) (S' ++ os))) ∧ d < m ∧ St S' := fun q r' l' hq => by
    obtain ⟨d, ed, hd⟩ := nat r'
    refine ⟨d, [.lst [.int (r' / (m : Int) * (if decide (0 < l' - 1) = true then 1 else 0)), nV q, .int (t + 1), .int sd, .fls (cs.map MV.int), .int (l' - 1)]], rfl, fun x3 => ?_, hd, ⟨cs, q, _, _, _, _, rfl, hl, hq⟩⟩
    have : mulOk (r' / (m : Int)) (if 1 < l' then 1 else 0) := .inr (by split <;> simp)
    simp [atI_0, atI_5, ixN_5, ixN_0, ed, hm, hm3, this]
  by_cases c1 : r = 0
  · subst c1
    by_cases c2 : p = cs.length
    · obtain ⟨d0, e0⟩ := mixed (a := sd) (t := t + 1) (h := [MO.lst [.int 0, nV p, .int (t + 1), .int sd, .fls (cs.map MV.int), .int l]] ++ os)
      obtain ⟨d, ed, hd⟩ := nat d0
      refine ⟨d, [.lst [.int 0, nV p, .int (t + 1), .int sd, .fls (cs.map MV.int), .int l]], ?_, hd, ⟨cs, p, _, _, _, _, rfl, hl, hp⟩⟩
      subst c2
      simp only [List.cons_append, List.nil_append] at e0 ⊢
      simp [f_law_take, m_law_take, atI_0, atI_1, atI_2, atI_3, atI_4, ixN_2, eqB, e0, ed, hm]
    · obtain ⟨x, ex⟩ : ∃ x, cs[p]? = some x := ⟨_, List.getElem?_eq_getElem (by omega)⟩
      have c2' : ¬ ((p : Int) = (cs.length : Int)) := by omega
      by_cases c3 : x % 2 = 1
      · obtain ⟨d0, e0⟩ := mixed (a := x) (t := t + 1) (h := [MO.lst [.int 0, nV (p + 1), .int (t + 1), .int sd, .fls (cs.map MV.int), .int l]] ++ os)
        obtain ⟨d, ed, hd⟩ := nat d0
        refine ⟨d, [.lst [.int 0, nV (p + 1), .int (t + 1), .int sd, .fls (cs.map MV.int), .int l]], ?_, hd, ⟨cs, p + 1, _, _, _, _, rfl, hl, by omega⟩⟩
        simp only [List.cons_append, List.nil_append, nV, Int.natCast_add, Int.cast_ofNat_Int] at e0 ⊢
        simp [f_law_take, m_law_take, atI_0, atI_1, atI_2, atI_3, atI_4, ixN_2, ixN_1, eqB, c2, c2', atI_n, ex, c3, e0, ed, hm]
      · obtain ⟨d, S', _, e1, hd, hS'⟩ := tail (p + 1) ((if x < 0 then -x else x) / 2) 60 (by omega)
        refine ⟨d, S', defM_ret rfl ?_, hd, hS'⟩
        show m_law_take [some (.ref 0), some (nV m), none, none, none] ([MO.lst [.int 0, nV p, .int t, .int sd, .fls (cs.map MV.int), .int l]] ++ os) = _
        unfold m_law_take
        rw [seq_nx (s1 := [some (.ref 0), some (nV m), some (.fls (cs.map MV.int)), none, none]) (h1 := [MO.lst [.int 0, nV p, .int t, .int sd, .fls (cs.map MV.int), .int l]] ++ os) (by simp [atI_4]),
          seq_nx (s1 := [some (.ref 0), some (nV m), some (.fls (cs.map MV.int)), none, none]) (h1 := [MO.lst [.int 0, nV p, .int (t + 1), .int sd, .fls (cs.map MV.int), .int l]] ++ os) (by simp [atI_2, ixN_2]),
          seq_nx (s1 := [some (.ref 0), some (nV m), some (.fls (cs.map MV.int)), some (.int x), none]) (h1 := [MO.lst [.int ((if x < 0 then -x else x) / 2), nV (p + 1), .int (t + 1), .int sd, .fls (cs.map MV.int), .int 60]] ++ os) (by
            simp [atI_0, atI_1, atI_2, ixN_0, ixN_1, ixN_5, eqB, c2, c2', atI_n, ex, c3])]
        exact e1 _
  · obtain ⟨d, S', _, e1, hd, hS'⟩ := tail p r l hp
    refine ⟨d, S', defM_ret rfl ?_, hd, hS'⟩
    show m_law_take [some (.ref 0), some (nV m), none, none, none] ([MO.lst [.int r, nV p, .int t, .int sd, .fls (cs.map MV.int), .int l]] ++ os) = _
    unfold m_law_take
    rw [seq_nx (s1 := [some (.ref 0), some (nV m), some (.fls (cs.map MV.int)), none, none]) (h1 := [MO.lst [.int r, nV p, .int t, .int sd, .fls (cs.map MV.int), .int l]] ++ os) (by simp [atI_4]),
      seq_nx (s1 := [some (.ref 0), some (nV m), some (.fls (cs.map MV.int)), none, none]) (h1 := [MO.lst [.int r, nV p, .int (t + 1), .int sd, .fls (cs.map MV.int), .int l]] ++ os) (by simp [atI_2, ixN_2]),
      seq_nx (s1 := [some (.ref 0), some (nV m), some (.fls (cs.map MV.int)), none, none]) (h1 := [MO.lst [.int r, nV p, .int (t + 1), .int sd, .fls (cs.map MV.int), .int l]] ++ os) (by simp [atI_0, eqB, c1])]
    exact e1 _
end Mi.k18
set_option maxHeartbeats 4000000
namespace Mi.k18
open PySem L2
theorem at_ {S : MH} (hS : St S) {os : MH} {p : Nat} (hp : p = 1 + os.length) {o : MO} {t : MH} : (S ++ (os ++ o :: t))[p]? = some o := by
  rw [← List.append_assoc, ga0 (by rw [List.length_append, hS.len]; exact hp.symm)]
  rfl
theorem set_ {S : MH} (hS : St S) {os : MH} {p : Nat} (hp : p = 1 + os.length) {o o2 : MO} {t : MH} : (S ++ (os ++ o :: t)).set p o2 = S ++ (os ++ o2 :: t) := by
  rw [← List.append_assoc, sa0 (by rw [List.length_append, hS.len]; exact hp.symm), List.append_assoc]
  rfl
theorem run_0 {n : Nat} : runOf 0 n = (List.range n).map nV := run_m
theorem erase_map {α β : Type} {f : α → β} : ∀ {xs : List α} {i : Nat}, (xs.map f).eraseIdx i = (xs.eraseIdx i).map f
  | [], _ => rfl
  | x :: xs, 0 => rfl
  | x :: xs, i + 1 => by
    rw [List.map_cons, List.eraseIdx_cons_succ, List.eraseIdx_cons_succ, List.map_cons, erase_map]
theorem erase_perm {α : Type} {y : α} : ∀ {xs : List α} {i : Nat}, xs[i]? = some y → (y :: xs.eraseIdx i).Perm xs
  | [], i, h => by simp at h
  | x :: xs, 0, h => by
    have e : x = y := by simpa using h
    rw [e]
    exact List.Perm.refl _
  | x :: xs, i + 1, h => by
    have ih := erase_perm (xs := xs) (i := i) (by simpa using h)
    rw [List.eraseIdx_cons_succ]
    exact (List.Perm.swap x y _).trans (ih.cons x)
theorem mingled {S os : MH} {n : Nat} (hS : St S) (hn : n ≤ 1000) : ∃ (L : List Nat) (S' : MH), f_law_mingled [.ref 0, nV n] (S ++ os) = ok (.fls (L.map nV)) (S' ++ os) ∧ L.Perm (List.range n) ∧ St S' := by
  obtain ⟨p, hp⟩ : ∃ p, p = 1 + os.length := ⟨_, rfl⟩
  have q1 : (n : Int) ≤ 1000000 := by omega
  have q2 : (-1000000 : Int) ≤ n := by omega
  obtain ⟨acc, ⟨S2, pool⟩, e, h2, hl, xs, ex, hx⟩ := lc_m (g := one 3) (cd := yesT) (el := mthM popAtF (varM 2) (consA (callM f_law_take [] (consA (varM 0) (consA (bltM lenF (consA (varM 2) nilA)) nilA))) nilA)) (s0 := [some (.ref 0), some (nV n), some (.ref p), none]) (f := nV) (xs := List.range n) (a0 := (S, List.range n))
    (fun s : MH × List Nat => s.1 ++ (os ++ [.lst (s.2.map nV)])) (fun i acc s => St s.1 ∧ s.2.length + i = n ∧ ∃ xs : List Nat, acc = xs.map nV ∧ (xs ++ s.2).Perm (List.range n)) ⟨hS, by simp, [], rfl, List.Perm.refl _⟩ fun i x acc s hx ⟨i1, i2, xs, i3, i4⟩ => by
      have hi := (List.getElem?_eq_some_iff.mp hx).1
      rw [List.length_range] at hi
      obtain ⟨S1, pool⟩ := s
      dsimp only at i1 i2 i4 ⊢
      obtain ⟨d, S3, e3, hd, h3⟩ := take (os := os ++ [.lst (pool.map nV)]) (m := pool.length) i1 (by omega) (by omega)
      have b0 : (S1 ++ (os ++ [MO.lst (pool.map nV)]))[p]? = some (.lst (pool.map nV)) := at_ i1 hp
      have b1 : (S3 ++ (os ++ [MO.lst (pool.map nV)]))[p]? = some (.lst (pool.map nV)) := at_ h3 hp
      have s1 : (S3 ++ (os ++ [MO.lst (pool.map nV)])).set p (.lst ((pool.map nV).eraseIdx d)) = S3 ++ (os ++ [MO.lst ((pool.eraseIdx d).map nV)]) := by
        rw [set_ h3 hp, erase_map]
      obtain ⟨y, hy⟩ : ∃ y, pool[d]? = some y := ⟨_, List.getElem?_eq_getElem hd⟩
      have hy2 : (pool.map nV)[d]? = some (nV y) := by rw [List.getElem?_map, hy]; rfl
      have ll : (pool.map nV).length = pool.length := List.length_map ..
      have hix : ixN pool.length (d : Int) = some d := by rw [ixN_n, if_pos hd]
      have e3' : f_law_take [.ref 0, .int (pool.length : Int)] (S1 ++ (os ++ [.lst (pool.map nV)])) = ok (.int (d : Int)) (S3 ++ (os ++ [.lst (pool.map nV)])) := e3
      have lm : pool.length ≤ lim := by unfold lim; omega
      refine ⟨[some (.ref 0), some (nV n), some (.ref p), some (nV x)], rfl, true, (S1, pool), rfl, fun _ => ⟨nV y, (S3, pool.eraseIdx d), ?_, ?_, h3, ?_, xs ++ [y], ?_, ?_⟩, fun z => by cases z⟩
      · dsimp only
        rw [← s1]
        generalize hP : pool.map nV = P at *
        simp [b0, ll, e3', b1, hix, hy2, lm]
      · rw [i3, List.length_map]
        have := i4.length_eq
        rw [List.length_append, List.length_range] at this
        unfold lim
        omega
      · rw [List.length_eraseIdx_of_lt hd]
        omega
      · rw [i3, List.map_append]
        rfl
      · rw [List.append_assoc]
        exact (List.Perm.append_left xs (erase_perm hy)).trans i4
  rw [List.length_range] at hl
  dsimp only at hl e h2 hx
  have hl0 : pool = [] := List.length_eq_zero_iff.mp (by omega)
  subst hl0
  rw [List.append_nil] at hx
  refine ⟨xs, S2, ?_, hx, h2⟩
  refine cut_s (ks := [.lst []]) ?_ (by rw [h2.len, hS.len]) h2.self (show cloL 0 (xs.map nV) = true from cloL_map fun _ => rfl)
  refine defM_ret rfl ?_
  show m_law_mingled [some (.ref 0), some (nV n), none, none] (S ++ os) = _
  unfold m_law_mingled
  have rg : rgL (varM 1) [some (.ref 0), some (nV n), none, none] (S ++ os) = ok ((List.range n).map nV) (S ++ os) := by
    simp [q1, q2, run_0]
  have hp1 : (S ++ os).length = p := by rw [List.length_append, hS.len, hp]
  rw [seq_nx (s1 := [some (.ref 0), some (nV n), some (.ref p), none]) (h1 := S ++ (os ++ [.lst ((List.range n).map nV)])) (by
    unfold setS refM
    rw [rg, bnd_ok, hp1, List.append_assoc]
    rfl)]
  subst ex
  rw [← run_0] at e ⊢
  generalize S ++ (os ++ [MO.lst (runOf 0 n)]) = H0 at *
  simp [q1, q2, e]
end Mi.k18
set_option maxHeartbeats 4000000
namespace Mi.k18
open PySem L2
/-- a gets b and what is above b -/
def adF (a b : Nat) (f : Nat → Nat → Bool) : Nat → Nat → Bool := fun x y => if x = a then (f a y || decide (y = b) || f b y) else f x y
/-- links along a sequence, from its place i on -/
structure AI (L : List Nat) (i : Nat) (f : Nat → Nat → Bool) : Prop where
  pos : ∀ x y, f x y = true → ∃ s t, i ≤ s ∧ s < t ∧ L[s]? = some x ∧ L[t]? = some y
  tr : ∀ x y z, f x y = true → f y z = true → f x z = true
theorem nd_at {L : List Nat} (hd : L.Nodup) {s t x : Nat} (h1 : L[s]? = some x) (h2 : L[t]? = some x) : s = t := by
  obtain ⟨l1, e1⟩ := List.getElem?_eq_some_iff.mp h1
  obtain ⟨l2, e2⟩ := List.getElem?_eq_some_iff.mp h2
  have pw := List.pairwise_iff_getElem.mp hd
  rcases Nat.lt_trichotomy s t with c | c | c
  · exact absurd (e1.trans e2.symm) (pw s t l1 l2 c)
  · exact c
  · exact absurd (e2.trans e1.symm) (pw t s l2 l1 c)
theorem AI.add {L : List Nat} {i j a b : Nat} {f : Nat → Nat → Bool} (hd : L.Nodup) (h : AI L i f) (ha : L[i]? = some a) (hb : L[j]? = some b) (hij : i < j) : AI L i (adF a b f) := by
  have na : ∀ x, f x a = true → False := fun x hx => by
    obtain ⟨s, t, h1, h2, h3, h4⟩ := h.pos x a hx
    have := nd_at hd h4 ha
    omega
  have nb : ∀ y, f a y = true ∨ y = b ∨ f b y = true → y ≠ a := fun y hy e => by
    rw [e] at hy
    rcases hy with z | z | z
    · exact na _ z
    · rw [z] at ha
      have := nd_at hd ha hb
      omega
    · exact na _ z
  have un : ∀ y, adF a b f a y = true ↔ f a y = true ∨ y = b ∨ f b y = true := fun y => by
    unfold adF
    rw [if_pos rfl, Bool.or_eq_true, Bool.or_eq_true, decide_eq_true_iff, or_assoc]
  have ne : ∀ x y, x ≠ a → adF a b f x y = f x y := fun x y hx => if_neg hx
  constructor
  · intro x y hxy
    by_cases c : x = a
    · subst c
      rcases (un y).mp hxy with z | z | z
      · exact h.pos _ _ z
      · rw [z]
        exact ⟨i, j, Nat.le_refl _, hij, ha, hb⟩
      · obtain ⟨s, t, h1, h2, h3, h4⟩ := h.pos _ _ z
        have := nd_at hd h3 hb
        exact ⟨i, t, Nat.le_refl _, by omega, ha, h4⟩
    · rw [ne x y c] at hxy
      exact h.pos _ _ hxy
  · intro x y z hxy hyz
    by_cases c : x = a
    · subst c
      have hy := (un y).mp hxy
      rw [ne y z (nb y hy)] at hyz
      rw [un]
      rcases hy with w | w | w
      · exact .inl (h.tr _ _ _ w hyz)
      · rw [w] at hyz
        exact .inr (.inr hyz)
      · exact .inr (.inr (h.tr _ _ _ w hyz))
    · rw [ne x y c] at hxy
      rw [ne x z c]
      by_cases c2 : y = a
      · rw [c2] at hxy
        exact (na _ hxy).elim
      · rw [ne y z c2] at hyz
        exact h.tr _ _ _ hxy hyz
theorem AI.down {L : List Nat} {i : Nat} {f : Nat → Nat → Bool} (h : AI L (i + 1) f) : AI L i f := ⟨fun x y hxy => by
  obtain ⟨s, t, h1, h2⟩ := h.pos x y hxy
  exact ⟨s, t, by omega, h2⟩, h.tr⟩
theorem AI.ord {L : List Nat} {n : Nat} {f : Nat → Nat → Bool} (hp : L.Perm (List.range n)) (h : AI L 0 f) : SOrd n f := by
  have hd : L.Nodup := (hp.nodup_iff).mpr List.nodup_range
  have hm : ∀ {s x : Nat}, L[s]? = some x → x < n ∧ L.idxOf x = s := fun {s x} hs => by
    have hx := List.mem_of_getElem? hs
    refine ⟨List.mem_range.mp (hp.mem_iff.mp hx), ?_⟩
    have hl := List.idxOf_lt_length_of_mem hx
    exact nd_at hd (by rw [List.getElem?_eq_getElem hl, List.getElem_idxOf]) hs
  refine ⟨⟨fun x => L.idxOf x, fun x y hxy => ?_⟩, fun x y hxy => ?_, h.tr⟩
  · obtain ⟨s, t, _, h2, h3, h4⟩ := h.pos x y hxy
    show L.idxOf x < L.idxOf y
    rw [(hm h3).2, (hm h4).2]
    exact h2
  · obtain ⟨s, t, _, h2, h3, h4⟩ := h.pos x y hxy
    exact ⟨(hm h3).1, (hm h4).1⟩
/-! ### the walk of _law_any -/
theorem tb_top {S os : MH} (hS : St S) {p n : Nat} (hp : p = 1 + os.length) {f : Nat → Nat → Bool} : (S ++ (os ++ matH p (rowsB n f)))[p + n]? = some (.lst (refsM p n)) := by
  rw [← List.append_assoc]
  exact tab_top (by rw [List.length_append, hS.len, hp])
theorem tb_row {S os : MH} (hS : St S) {p n x : Nat} (hp : p = 1 + os.length) {f : Nat → Nat → Bool} (hx : x < n) : (S ++ (os ++ matH p (rowsB n f)))[p + x]? = some (.lst (rowB n (f x))) := by
  rw [← List.append_assoc]
  exact tab_row (by rw [List.length_append, hS.len, hp]) hx
theorem tb_set {S os : MH} (hS : St S) {p n x : Nat} (hp : p = 1 + os.length) {f : Nat → Nat → Bool} {c : Nat → Bool} (hx : x < n) : (S ++ (os ++ matH p (rowsB n f))).set (p + x) (.lst (rowB n c)) = S ++ (os ++ matH p (rowsB n fun i => if i = x then c else f i)) := by
  rw [← List.append_assoc, tab_set (by rw [List.length_append, hS.len, hp]) hx, List.append_assoc]
theorem rng2_n {a b : Int} {h : MH} (h1 : -1000000 ≤ a) (h2 : a ≤ 1000000) (h3 : -1000000 ≤ b) (h4 : b ≤ 1000000) : rng2F [.int a, .int b] h = ok (.st (runOf a (b - a).toNat)) h := by
  unfold rng2F
  exact if_pos ⟨⟨h2, h1⟩, h4, h3⟩
/-- the first k columns taken over -/
def upto (a b k : Nat) (f : Nat → Nat → Bool) : Nat → Nat → Bool := fun x => if x = a then (fun y => f a y || (decide (y < k) && f b y)) else f x
theorem upto_full {a b n : Nat} {f : Nat → Nat → Bool} : rowsB n (upto a b n f) = rowsB n (fun x y => if x = a then (f a y || f b y) else f x y) := rowsB_congr fun x y _ hy => by
  unfold upto
  by_cases c : x = a
  · rw [if_pos c, if_pos c, decide_eq_true hy, Bool.true_and]
  · rw [if_neg c, if_neg c]
theorem upto_0 {a b : Nat} {f : Nat → Nat → Bool} : upto a b 0 f = f := by
  funext x
  unfold upto
  by_cases c : x = a
  · rw [if_pos c, c]
    funext y
    simp
  · rw [if_neg c]
def sA (n p : Nat) (L : List Nat) (mv : MV) (i a : Nat) (x8 : Option MV) : MS := [some (.ref 0), some (nV n), some (.fls (L.map nV)), some (.ref (p + n)), none, some mv, some (nV i), some (.ref (p + a)), x8, none]
theorem any1 {S os : MH} {n p i j a b : Nat} {L : List Nat} {mv : MV} {f : Nat → Nat → Bool} (hS : St S) (hp : p = 1 + os.length) (hn : n ≤ 64) (hL : ∀ x ∈ L, x < n) (ha : a < n) (hb : L[j]? = some b) (hab : a ≠ b) :
    preW [9] (forM (rng1 (consA (varM 1) nilA)) (one 9) b1_law_any) (sA n p L mv i a (some (nV j))) (S ++ (os ++ matH p (rowsB n f))) = some (.nx (sA n p L mv i a (some (nV j))) (S ++ (os ++ matH p (rowsB n fun x y => if x = a then (f a y || f b y) else f x y)))) := by
  have q1 : (n : Int) ≤ 1000000 := by omega
  have q2 : (-1000000 : Int) ≤ n := by omega
  have hbn := hL b (List.mem_of_getElem? hb)
  have ib : (L.map nV)[j]? = some (nV b) := by rw [List.getElem?_map, hb]; rfl
  obtain ⟨k, e, hk⟩ := for_m (f := nV) (bd := turnM (one 9) b1_law_any) (xs := List.range n) (fun _ : Nat => sA n p L mv i a (some (nV j))) (fun k => S ++ (os ++ matH p (rowsB n (upto a b k f)))) (fun i k => k = i) (a0 := 0) rfl fun i2 y k hy hk => by
    obtain ⟨hi, ey⟩ := List.getElem?_eq_some_iff.mp hy
    rw [List.getElem_range] at ey
    subst ey
    subst hk
    have hk' : k < n := by simpa using hi
    refine ⟨k + 1, .inl ?_, rfl⟩
    have t0 := tb_top (n := n) (f := upto a b k f) hS hp
    have t1 := tb_row (n := n) (f := upto a b k f) hS hp ha
    have t2 := tb_row (n := n) (f := upto a b k f) hS hp hbn
    have v1 : upto a b k f a k = f a k := by
      unfold upto
      simp
    have v2 : upto a b k f b k = f b k := by
      unfold upto
      rw [if_neg (Ne.symm hab)]
    have ts := tb_set (n := n) (f := upto a b k f) (c := fun z => if z = k then (f a k || f b k) else upto a b k f a z) hS hp ha
    have nx : rowsB n (fun i => if i = a then (fun z => if z = k then (f a k || f b k) else upto a b k f a z) else upto a b k f i) = rowsB n (upto a b (k + 1) f) := rowsB_congr fun x z _ hz => by
      unfold upto
      by_cases c : x = a
      · rw [if_pos c, if_pos c, if_pos rfl]
        by_cases c2 : z = k
        · rw [if_pos c2, c2, decide_eq_true (Nat.lt_succ_self k), Bool.true_and]
        · rw [if_neg c2]
          congr 2
          rw [Bool.eq_iff_iff, decide_eq_true_iff, decide_eq_true_iff]
          omega
      · rw [if_neg c, if_neg c, if_neg c]
    rw [nx, ← rowB_set] at ts
    have r1 := rowB_get (c := upto a b k f a) hk'
    have r2 := rowB_get (c := upto a b k f b) hk'
    rw [v1] at r1
    rw [v2] at r2
    have rl : (rowB n (upto a b k f a)).length = n := rowB_len
    have rf := refs_get (b := p) hbn
    have hix : ixN n (k : Int) = some k := by rw [ixN_n, if_pos hk']
    show b1_law_any [some (.ref 0), some (nV n), some (.fls (L.map nV)), some (.ref (p + n)), none, some mv, some (nV i), some (.ref (p + a)), some (nV j), some (nV k)] _ = _
    generalize upto a b k f = g0 at *
    generalize S ++ (os ++ matH p (rowsB n g0)) = H0 at *
    generalize S ++ (os ++ matH p (rowsB n (upto a b (k + 1) f))) = H1 at *
    cases c1 : f a k with
    | true =>
      rw [c1] at r1 ts
      rw [Bool.true_or] at ts
      simp [b1_law_any, sA, t1, atI_n, r1, rl, hix, ts]
    | false =>
      rw [c1] at r1 ts
      rw [Bool.false_or] at ts
      simp [b1_law_any, sA, t1, atI_n, r1, t0, ib, rf, t2, r2, rl, hix, ts]
  rw [List.length_range] at hk
  subst hk
  rw [upto_0, upto_full, ← run_0] at e
  unfold sA at e ⊢
  simp [q1, q2, e]
theorem any2 {S os : MH} {n p i j a b many : Nat} {L : List Nat} {f : Nat → Nat → Bool} (hS : St S) (hp : p = 1 + os.length) (hn : n ≤ 64) (hL : ∀ x ∈ L, x < n) (ha : a < n) (hb : L[j]? = some b) (hab : a ≠ b) (m1 : 0 < many) (m2 : many ≤ 100) :
    ∃ (S' : MH) (f' : Nat → Nat → Bool), turnM (one 8) b2_law_any (nV j) (sA n p L (nV many) i a none) (S ++ (os ++ matH p (rowsB n f))) = some (.nx (sA n p L (nV many) i a none) (S' ++ (os ++ matH p (rowsB n f')))) ∧ (f' = f ∨ f' = adF a b f) ∧ St S' := by
  obtain ⟨d, S1, e1, hd, h1⟩ := take (os := os ++ matH p (rowsB n f)) (m := many) hS m1 (by omega)
  have hbn := hL b (List.mem_of_getElem? hb)
  have ib : (L.map nV)[j]? = some (nV b) := by rw [List.getElem?_map, hb]; rfl
  have e1' : f_law_take [.ref 0, .int (many : Int)] (S ++ (os ++ matH p (rowsB n f))) = ok (.int (d : Int)) (S1 ++ (os ++ matH p (rowsB n f))) := e1
  by_cases c : d = 0
  · subst c
    have t1 := tb_row (n := n) (f := f) h1 hp ha
    have ts := tb_set (n := n) (f := f) (c := fun z => if z = b then true else f a z) h1 hp ha
    have a1 := any1 (mv := nV many) (i := i) (f := fun x => if x = a then (fun z => if z = b then true else f a z) else f x) h1 hp hn hL ha hb hab
    have ef : rowsB n (fun x y => if x = a then ((if a = a then (fun z => if z = b then true else f a z) else f a) y || (if b = a then (fun z => if z = b then true else f a z) else f b) y) else (if x = a then (fun z => if z = b then true else f a z) else f x) y) = rowsB n (adF a b f) := rowsB_congr fun x y _ _ => by
      unfold adF
      by_cases cx : x = a
      · rw [if_pos cx, if_pos cx, if_pos rfl, if_neg (Ne.symm hab)]
        by_cases cy : y = b
        · rw [if_pos cy, cy, decide_eq_true rfl]
          simp
        · rw [if_neg cy, decide_eq_false cy, Bool.or_false]
      · rw [if_neg cx, if_neg cx, if_neg cx]
    rw [ef] at a1
    rw [← rowB_set] at ts
    refine ⟨S1, adF a b f, ?_, .inr rfl, h1⟩
    show b2_law_any [some (.ref 0), some (nV n), some (.fls (L.map nV)), some (.ref (p + n)), none, some (nV many), some (nV i), some (.ref (p + a)), some (nV j), none] _ = _
    unfold b2_law_any wipT
    have tt : tstM (opM eqF (callM f_law_take [] (consA (varM 0) (consA (varM 5) nilA))) (cM (.int 0))) [some (.ref 0), some (nV n), some (.fls (L.map nV)), some (.ref (p + n)), none, some (nV many), some (nV i), some (.ref (p + a)), some (nV j), none] (S ++ (os ++ matH p (rowsB n f))) = ok true (S1 ++ (os ++ matH p (rowsB n f))) := by
      generalize S ++ (os ++ matH p (rowsB n f)) = H0 at *
      generalize S1 ++ (os ++ matH p (rowsB n f)) = H1 at *
      simp [e1', eqB]
    have rl : (rowB n (f a)).length = n := rowB_len
    have hix : ixN n (b : Int) = some b := by rw [ixN_n, if_pos hbn]
    rw [ifS_t tt, seq_nx (s1 := [some (.ref 0), some (nV n), some (.fls (L.map nV)), some (.ref (p + n)), none, some (nV many), some (nV i), some (.ref (p + a)), some (nV j), none]) (h1 := S1 ++ (os ++ matH p (rowsB n fun x => if x = a then (fun z => if z = b then true else f a z) else f x))) (by
      generalize S1 ++ (os ++ matH p (rowsB n f)) = H1 at *
      generalize S1 ++ (os ++ matH p (rowsB n fun x => if x = a then (fun z => if z = b then true else f a z) else f x)) = H2 at *
      simp [t1, atI_n, ib, rl, hix, ts])]
    unfold sA at a1
    rw [a1]
    rfl
  · refine ⟨S1, f, ?_, .inl rfl, h1⟩
    show b2_law_any [some (.ref 0), some (nV n), some (.fls (L.map nV)), some (.ref (p + n)), none, some (nV many), some (nV i), some (.ref (p + a)), some (nV j), none] _ = _
    generalize S ++ (os ++ matH p (rowsB n f)) = H0 at *
    generalize S1 ++ (os ++ matH p (rowsB n f)) = H1 at *
    simp [b2_law_any, sA, e1', eqB, c]
theorem any3 {S os : MH} {n p i a many : Nat} {L : List Nat} {f : Nat → Nat → Bool} (hS : St S) (hp : p = 1 + os.length) (hn : n ≤ 64) (hP : L.Perm (List.range n)) (ha : L[i]? = some a) (m1 : 0 < many) (m2 : many ≤ 100) (hA : AI L (i + 1) f) :
    ∃ (S' : MH) (f' : Nat → Nat → Bool), turnM (one 6) b3_law_any (nV i) [some (.ref 0), some (nV n), some (.fls (L.map nV)), some (.ref (p + n)), none, some (nV many), none, none, none, none] (S ++ (os ++ matH p (rowsB n f))) = some (.nx [some (.ref 0), some (nV n), some (.fls (L.map nV)), some (.ref (p + n)), none, some (nV many), none, none, none, none] (S' ++ (os ++ matH p (rowsB n f')))) ∧ AI L i f' ∧ St S' := by
  have hd : L.Nodup := (hP.nodup_iff).mpr List.nodup_range
  have hL : ∀ x ∈ L, x < n := fun x hx => List.mem_range.mp (hP.mem_iff.mp hx)
  have hl : L.length = n := by rw [hP.length_eq, List.length_range]
  have han := hL a (List.mem_of_getElem? ha)
  have hi : i < n := by
    have := (List.getElem?_eq_some_iff.mp ha).1
    omega
  have ia : (L.map nV)[i]? = some (nV a) := by rw [List.getElem?_map, ha]; rfl
  have q3 : ((n : Int) - ((i : Int) + 1)).toNat = n - (i + 1) := by omega
  obtain ⟨⟨S2, f2⟩, e, h2, hA2⟩ := for_m (f := fun k => nV (i + 1 + k)) (bd := turnM (one 8) b2_law_any) (xs := List.range (n - (i + 1))) (fun _ : MH × (Nat → Nat → Bool) => sA n p L (nV many) i a none) (fun s => s.1 ++ (os ++ matH p (rowsB n s.2))) (fun _ s => St s.1 ∧ AI L i s.2) (a0 := (S, f)) ⟨hS, hA.down⟩ fun k x s hx ⟨h1, hA1⟩ => by
    have hx' : x < n - (i + 1) := by
      have := List.mem_of_getElem? hx
      simpa using this
    obtain ⟨b, hb⟩ : ∃ b, L[i + 1 + x]? = some b := ⟨_, List.getElem?_eq_getElem (by omega)⟩
    have hab : a ≠ b := fun z => by
      rw [z] at ha
      have := nd_at hd ha hb
      omega
    obtain ⟨S3, f3, e3, o3, h3⟩ := any2 (i := i) (many := many) (f := s.2) h1 hp hn hL han hb hab m1 m2
    refine ⟨(S3, f3), .inl e3, h3, ?_⟩
    rcases o3 with z | z
    · show AI L i f3
      rw [z]
      exact hA1
    · show AI L i f3
      rw [z]
      exact hA1.add hd ha hb (by omega)
  have er : (List.range (n - (i + 1))).map (fun k => nV (i + 1 + k)) = runOf ((i : Int) + 1) (n - (i + 1)) := by
    unfold runOf
    refine List.map_congr_left fun k _ => ?_
    have ec : ((i + 1 + k : Nat) : Int) = (i : Int) + 1 + (k : Int) := by omega
    exact congrArg MV.int ec
  rw [er] at e
  refine ⟨S2, f2, ?_, hA2, h2⟩
  have t0 := tb_top (n := n) (f := f) hS hp
  have rf := refs_get (b := p) han
  show b3_law_any [some (.ref 0), some (nV n), some (.fls (L.map nV)), some (.ref (p + n)), none, some (nV many), some (nV i), none, none, none] _ = _
  unfold b3_law_any wipT
  rw [seq_nx (s1 := [some (.ref 0), some (nV n), some (.fls (L.map nV)), some (.ref (p + n)), none, some (nV many), some (nV i), some (.ref (p + a)), none, none]) (h1 := S ++ (os ++ matH p (rowsB n f))) (by
    generalize S ++ (os ++ matH p (rowsB n f)) = H0 at *
    simp [atI_n, ia, t0, rf])]
  have q1 : (n : Int) ≤ 1000000 := by omega
  have q2 : (-1000000 : Int) ≤ n := by omega
  have q4 : (i : Int) + 1 ≤ 1000000 := by omega
  have q5 : (-1000000 : Int) ≤ (i : Int) + 1 := by omega
  dsimp only at e
  have s7 : preW [8, 9] (forM (rng2 (consA (opM addF (varM 6) (cM (.int 1))) (consA (varM 1) nilA))) (one 8) b2_law_any) [some (.ref 0), some (nV n), some (.fls (L.map nV)), some (.ref (p + n)), none, some (nV many), some (nV i), some (.ref (p + a)), none, none] (S ++ (os ++ matH p (rowsB n f))) = some (.nx [some (.ref 0), some (nV n), some (.fls (L.map nV)), some (.ref (p + n)), none, some (nV many), some (nV i), some (.ref (p + a)), none, none] (S2 ++ (os ++ matH p (rowsB n f2)))) := by
    unfold sA at e
    have ar : consA (opM addF (varM 6) (cM (.int 1))) (consA (varM 1) nilA) [some (.ref 0), some (nV n), some (.fls (L.map nV)), some (.ref (p + n)), none, some (nV many), some (nV i), some (.ref (p + a)), none, none] (S ++ (os ++ matH p (rowsB n f))) = ok [.int ((i : Int) + 1), .int (n : Int)] (S ++ (os ++ matH p (rowsB n f))) := consA_ok rfl (consA_ok rfl rfl)
    have rr : rng2 (consA (opM addF (varM 6) (cM (.int 1))) (consA (varM 1) nilA)) [some (.ref 0), some (nV n), some (.fls (L.map nV)), some (.ref (p + n)), none, some (nV many), some (nV i), some (.ref (p + a)), none, none] (S ++ (os ++ matH p (rowsB n f))) = ok (.st (runOf ((i : Int) + 1) (n - (i + 1)))) (S ++ (os ++ matH p (rowsB n f))) := by
      unfold rng2
      rw [ar, bnd_ok, rng2_n q5 q4 q2 q1, q3]
    show forM _ _ _ [some (.ref 0), some (nV n), some (.fls (L.map nV)), some (.ref (p + n)), none, some (nV many), some (nV i), some (.ref (p + a)), none, none] _ = _
    unfold forM
    rw [rr]
    exact e
  rw [s7]
  rfl
end Mi.k18
set_option maxHeartbeats 4000000
namespace Mi.k18
open PySem L2
theorem any {S os : MH} {n : Nat} (hS : St S) (hn : n ≤ 64) : ∃ (f : Nat → Nat → Bool) (S' : MH), f_law_any [.ref 0, nV n] (S ++ os) = ok (matV n n f) (S' ++ os) ∧ SOrd n f ∧ St S' := by
  obtain ⟨p, hp⟩ : ∃ p, p = 1 + os.length := ⟨_, rfl⟩
  obtain ⟨L, S1, e1, hP, h1⟩ := mingled (os := os) (n := n) hS (by omega)
  have hl : L.length = n := by rw [hP.length_eq, List.length_range]
  obtain ⟨d, S2, e2, hd, h2⟩ := take (os := os ++ matH p (rowsB n fun _ _ => false)) (m := 4) h1 (by omega) (by omega)
  obtain ⟨many, hm, m1, m2⟩ : ∃ many : Nat, ([2, 3, 4, 7] : List Nat)[d]? = some many ∧ 0 < many ∧ many ≤ 100 := by
    have : d = 0 ∨ d = 1 ∨ d = 2 ∨ d = 3 := by omega
    rcases this with z | z | z | z <;> subst z <;> exact ⟨_, rfl, by omega, by omega⟩
  obtain ⟨⟨S3, f⟩, e3, h3, hA⟩ := for_m (f := fun k => nV (n - 1 - k)) (bd := turnM (one 6) b3_law_any) (xs := List.range n) (fun _ : MH × (Nat → Nat → Bool) => [some (.ref 0), some (nV n), some (.fls (L.map nV)), some (.ref (p + n)), none, some (nV many), none, none, none, none]) (fun s => s.1 ++ (os ++ matH p (rowsB n s.2))) (fun k s => St s.1 ∧ AI L (n - k) s.2) (a0 := (S2, fun _ _ => false)) ⟨h2, ⟨(fun _ _ z => (Bool.false_ne_true z).elim), fun _ _ _ z => (Bool.false_ne_true z).elim⟩⟩ fun k x s hx ⟨q1, q2⟩ => by
    obtain ⟨hk, ex⟩ := List.getElem?_eq_some_iff.mp hx
    rw [List.getElem_range] at ex
    subst ex
    have hk' : k < n := by simpa using hk
    obtain ⟨a, ha⟩ : ∃ a, L[n - 1 - k]? = some a := ⟨_, List.getElem?_eq_getElem (by omega)⟩
    have q2' : AI L (n - 1 - k + 1) s.2 := by
      rw [show n - 1 - k + 1 = n - k by omega]
      exact q2
    obtain ⟨S4, f4, e4, hA4, h4⟩ := any3 (f := s.2) q1 hp hn hP ha m1 m2 q2'
    refine ⟨(S4, f4), .inl e4, h4, ?_⟩
    show AI L (n - (k + 1)) f4
    rw [show n - (k + 1) = n - 1 - k by omega]
    exact hA4
  rw [List.length_range, Nat.sub_self] at hA
  dsimp only at e3 h3 hA
  have er : (List.range n).map (fun k => nV (n - 1 - k)) = runC ((n : Int) - 1) (-1) n := by
    unfold runC
    refine List.map_congr_left fun k hk => ?_
    have hk' := List.mem_range.mp hk
    have ec : ((n - 1 - k : Nat) : Int) = (n : Int) - 1 + (k : Int) * -1 := by omega
    exact congrArg MV.int ec
  rw [er] at e3
  refine ⟨f, S3, ?_, hA.ord hP, h3⟩
  have fz := frz_mat (b := p) (n := n) (rows := rowsB n f) (pre := S3 ++ os) (ks := []) rowsB_flat (by rw [List.length_append, h3.len, hp]) rowsB_len
  rw [List.append_nil, List.append_nil, rowsB_fls] at fz
  refine cut_s (ks := List.replicate (n + 1) MO.dead) ?_ (by rw [h3.len, hS.len]) h3.self (by
    show cloL 0 (tb n fun x => MV.fls (tb n fun y => MV.bl (f x y))) = true
    refine cloL_iff.mpr fun z hz => ?_
    obtain ⟨i, _, ei⟩ := tb_mem.mp hz
    rw [← ei]
    refine cloL_iff.mpr fun w hw => ?_
    obtain ⟨i2, _, ei2⟩ := tb_mem.mp hw
    rw [← ei2]
    rfl)
  refine defM_ret rfl ?_
  show m_law_any [some (.ref 0), some (nV n), none, none, none, none, none, none, none, none] (S ++ os) = _
  unfold m_law_any
  have q1 : (n : Int) ≤ 1000000 := by omega
  have q2 : (-1000000 : Int) ≤ n := by omega
  have l1 : n ≤ lim := by unfold lim; omega
  rw [seq_nx (s1 := [some (.ref 0), some (nV n), some (.fls (L.map nV)), none, none, none, none, none, none, none]) (h1 := S1 ++ os) (by simp [e1])]
  have en := mat_new (i := 4) (f := nV) (s0 := [some (.ref 0), some (nV n), some (.fls (L.map nV)), none, none, none, none, none, none, none]) (m := repL (flsM (lstM (consA (cM (.bl false)) nilA))) (varM 1)) (fun _ => rowB n fun _ => false) (xs := List.range n) (h := S1 ++ os) (by simpa using l1) fun x _ h => by
    have l2 : 1 ≤ lim := by unfold lim; omega
    have rb := rep_bl (n := n) (v := false)
    simp [l2, q1, q2, l1]
    simpa using rb
  have hp1 : (S1 ++ os).length = p := by rw [List.length_append, h1.len, hp]
  rw [List.length_range, hp1, ← run_0] at en
  have em : (S1 ++ os) ++ (List.range n).map (fun _ => MO.lst (rowB n fun _ => false)) ++ [MO.lst (refsM p n)] = S1 ++ (os ++ matH p (rowsB n fun _ _ => false)) := by
    unfold matH
    rw [rowsB_len, List.append_assoc, List.append_assoc]
    congr 3
    unfold rowsB tb
    rw [List.map_map]
    rfl
  rw [seq_nx (s1 := [some (.ref 0), some (nV n), some (.fls (L.map nV)), some (.ref (p + n)), none, none, none, none, none, none]) (h1 := S1 ++ (os ++ matH p (rowsB n fun _ _ => false))) (by
    rw [← em]
    have ll : ((S1 ++ os) ++ (List.range n).map (fun _ => MO.lst (rowB n fun _ => false))).length = p + n := by
      rw [List.length_append, hp1]
      simp
    generalize S1 ++ os = H0 at *
    simp only [setS, refM, lcM, rng1, consA, nilA, varM, slot, may, bnd_ok, List.getElem?_cons_zero, List.getElem?_cons_succ, rng1F, if_pos (show (n : Int) ≤ 1000000 ∧ -1000000 ≤ (n : Int) from ⟨q1, q2⟩), Int.toNat_natCast, nV]
    show bndS (((lcS (one 4) yesT (refM (repL (flsM (lstM (consA (cM (.bl false)) nilA))) (varM 1))) [some (.ref 0), some (nV n), some (.fls (L.map nV)), none, none, none, none, none, none, none] (runOf 0 n) [] H0).bnd _)) _ = _
    rw [en, bnd_ok, ll]
    rfl)]
  have im : ([2, 3, 4, 7] : List Nat).map nV = [.int 2, .int 3, .int 4, .int 7] := rfl
  have hm2 : ([MV.int 2, .int 3, .int 4, .int 7] : List MV)[d]? = some (nV many) := by
    rw [← im, List.getElem?_map, hm]
    rfl
  have e2' : f_law_take [.ref 0, .int 4] (S1 ++ (os ++ matH p (rowsB n fun _ _ => false))) = ok (.int (d : Int)) (S2 ++ (os ++ matH p (rowsB n fun _ _ => false))) := e2
  rw [seq_nx (s1 := [some (.ref 0), some (nV n), some (.fls (L.map nV)), some (.ref (p + n)), none, some (nV many), none, none, none, none]) (h1 := S2 ++ (os ++ matH p (rowsB n fun _ _ => false))) (by
    generalize S1 ++ (os ++ matH p (rowsB n fun _ _ => false)) = H1 at *
    generalize S2 ++ (os ++ matH p (rowsB n fun _ _ => false)) = H2 at *
    simp [e2', lim, atI_n, hm2])]
  have rr : rng3 (consA (opM subF (varM 1) (cM (.int 1))) (consA (unM negF (cM (.int 1))) (consA (unM negF (cM (.int 1))) nilA))) [some (.ref 0), some (nV n), some (.fls (L.map nV)), some (.ref (p + n)), none, some (nV many), none, none, none, none] (S2 ++ (os ++ matH p (rowsB n fun _ _ => false))) = ok (.st (runC ((n : Int) - 1) (-1) n)) (S2 ++ (os ++ matH p (rowsB n fun _ _ => false))) := by
    have ar : consA (opM subF (varM 1) (cM (.int 1))) (consA (unM negF (cM (.int 1))) (consA (unM negF (cM (.int 1))) nilA)) [some (.ref 0), some (nV n), some (.fls (L.map nV)), some (.ref (p + n)), none, some (nV many), none, none, none, none] (S2 ++ (os ++ matH p (rowsB n fun _ _ => false))) = ok [.int ((n : Int) - 1), .int (-1), .int (-1)] (S2 ++ (os ++ matH p (rowsB n fun _ _ => false))) := consA_ok rfl (consA_ok rfl (consA_ok rfl rfl))
    unfold rng3
    rw [ar, bnd_ok, rng3_down (by omega) (by omega) (by omega) (by omega), show ((n : Int) - 1 - -1).toNat = n by omega]
  have s5 : preW [6, 7, 8, 9] (forM (rng3 (consA (opM subF (varM 1) (cM (.int 1))) (consA (unM negF (cM (.int 1))) (consA (unM negF (cM (.int 1))) nilA)))) (one 6) b3_law_any) [some (.ref 0), some (nV n), some (.fls (L.map nV)), some (.ref (p + n)), none, some (nV many), none, none, none, none] (S2 ++ (os ++ matH p (rowsB n fun _ _ => false))) = some (.nx [some (.ref 0), some (nV n), some (.fls (L.map nV)), some (.ref (p + n)), none, some (nV many), none, none, none, none] (S3 ++ (os ++ matH p (rowsB n f)))) := by
    show forM _ _ _ [some (.ref 0), some (nV n), some (.fls (L.map nV)), some (.ref (p + n)), none, some (nV many), none, none, none, none] _ = _
    unfold forM
    rw [rr]
    exact e3
  rw [seq_nx s5]
  refine retS_ok ?_
  show (match frzV 4 (.ref (p + n)) (S3 ++ (os ++ matH p (rowsB n f))) with
    | some (y, h2) => ok y h2
    | none => none) = _
  rw [← List.append_assoc, fz]
  show ok _ _ = ok _ _
  rw [List.append_assoc]
end Mi.k18
set_option maxHeartbeats 4000000
namespace Mi.k18
open PySem L2
theorem map_tb {β : Type} {xs : List Nat} {g : Nat → β} : xs.map g = (List.range xs.length).map fun i => g (xs.getD i 0) := by
  refine List.ext_getElem (by simp) fun i h1 h2 => ?_
  rw [List.getElem_map, List.getElem_map, List.getElem_range, List.getD_eq_getElem?_getD, List.getElem?_eq_getElem (by simpa using h1)]
  rfl
theorem nil_ok {s : MS} {h : MH} : nilA s h = ok [] h := rfl
theorem lst_ok {a : MM (List MV)} {s : MS} {h h1 : MH} {xs : List MV} (e : a s h = ok xs h1) (hl : xs.length ≤ 1000) : flsM (lstM a) s h = ok (.fls xs) h1 := by
  unfold flsM lstM
  rw [e, bnd_ok, if_pos (by unfold lim; omega)]
  rfl
theorem cat_ok {a b : ME} {s : MS} {h h1 h2 : MH} {xs ys : List MV} (e : a s h = ok (.fls xs) h1) (e2 : b s h1 = ok (.fls ys) h2) (hl : xs.length + ys.length ≤ 1000) : flsM (catL a b) s h = ok (.fls (xs ++ ys)) h2 := by
  unfold flsM catL
  rw [e, bnd_ok, e2, bnd_ok]
  show (if xs.length + ys.length ≤ lim then ok (xs ++ ys) h2 else none).bnd _ = _
  rw [if_pos (by unfold lim; omega)]
  rfl
theorem pick_ok {a i : ME} {s : MS} {h h1 h2 : MH} {xs : List MV} {d : Nat} (e : a s h = ok (.fls xs) h1) (e2 : i s h1 = ok (nV d) h2) (hd : d < xs.length) : ∃ x ∈ xs, opM ixF a i s h = ok x h2 := by
  refine ⟨xs[d], List.getElem_mem hd, ?_⟩
  unfold opM
  rw [e, bnd_ok, e2, bnd_ok]
  have : xs[d]? = some xs[d] := List.getElem?_eq_getElem hd
  show ixF (.fls xs) (.int (d : Int)) h2 = _
  simp [atI_n, this]
theorem blt_ok {f : List MV → MH → Res MV} {a : MM (List MV)} {s : MS} {h h1 h2 : MH} {xs : List MV} {y : MV} (e : a s h = ok xs h1) (e2 : f xs h1 = ok y h2) : bltM f a s h = ok y h2 := by
  unfold bltM
  rw [e]
  exact e2
theorem fls_ok {m : MM (List MV)} {s : MS} {h h1 : MH} {xs : List MV} (e : m s h = ok xs h1) : flsM m s h = ok (.fls xs) h1 := by
  unfold flsM
  rw [e]
  rfl
theorem rep1 {a : MV} : ∀ {c : Nat}, (List.replicate c [a]).flatten = List.replicate c a
  | 0 => rfl
  | c + 1 => by
    rw [List.replicate_succ, List.flatten_cons, rep1, List.replicate_succ]
    rfl
theorem levels {S os : MH} (hS : St S) : ∃ (k : Nat) (f : Nat → Nat → Bool) (S' : MH), f_law_levels [.ref 0] (S ++ os) = ok (matV k k f) (S' ++ os) ∧ k ≤ 12 ∧ SOrd k f ∧ St S' := by
  obtain ⟨d, S1, e1, hd, h1⟩ := take (os := os) (m := 4) hS (by omega) (by omega)
  have e1' : f_law_take [.ref 0, .int 4] (S ++ os) = ok (.int (d : Int)) (S1 ++ os) := e1
  obtain ⟨⟨S2, pl⟩, e2, h2, hl⟩ := for_m (f := nV) (bd := turnM (one 2) b1_law_levels) (xs := List.range (1 + d)) (fun s : MH × List Nat => [some (.ref 0), some (.fls (s.2.map nV)), none, none, none]) (fun s => s.1 ++ os) (fun i s => St s.1 ∧ s.2.length ≤ 3 * i) (a0 := (S1, [])) ⟨h1, Nat.le_refl _⟩ fun i x s hx ⟨q1, q2⟩ => by
    have hi := (List.getElem?_eq_some_iff.mp hx).1
    rw [List.length_range] at hi
    obtain ⟨u, S3, e3, hu, h3⟩ := take (os := os) (m := 4) q1 (by omega) (by omega)
    have e3' : f_law_take [.ref 0, .int 4] (s.1 ++ os) = ok (.int (u : Int)) (S3 ++ os) := e3
    obtain ⟨c, hc, c3⟩ : ∃ c : Nat, ([MV.int 1, .int 2, .int 2, .int 3] : List MV)[u]? = some (nV c) ∧ c ≤ 3 := by
      have : u = 0 ∨ u = 1 ∨ u = 2 ∨ u = 3 := by omega
      rcases this with z | z | z | z <;> subst z
      · exact ⟨1, rfl, by omega⟩
      · exact ⟨2, rfl, by omega⟩
      · exact ⟨2, rfl, by omega⟩
      · exact ⟨3, rfl, by omega⟩
    refine ⟨(S3, s.2 ++ List.replicate c x), .inl ?_, h3, by
      show (s.2 ++ List.replicate c x).length ≤ _
      rw [List.length_append, List.length_replicate]
      omega⟩
    have l1 : (s.2.map nV).length + c ≤ 100 := by
      rw [List.length_map]
      omega
    have c4 : (c : Int) ≤ 1000000 := by omega
    have c5 : (-1000000 : Int) ≤ c := by omega
    have c6 : c ≤ lim := by unfold lim; omega
    have rep := rep1 (a := nV x) (c := c)
    show b1_law_levels [some (.ref 0), some (.fls (s.2.map nV)), some (nV x), none, none] (s.1 ++ os) = _
    dsimp only
    rw [List.map_append, List.map_replicate]
    generalize s.2.map nV = P at *
    have l2 : 1 ≤ lim := by unfold lim; omega
    have l4 : 4 ≤ lim := by unfold lim; omega
    have rg : repL (flsM (lstM (consA (varM 2) nilA))) (opM ixF (flsM (lstM (consA (cM (.int 1)) (consA (cM (.int 2)) (consA (cM (.int 2)) (consA (cM (.int 3)) nilA)))))) (callM f_law_take [] (consA (varM 0) (consA (cM (.int 4)) nilA)))) [some (.ref 0), some (.fls P), some (nV x), none, none] (s.1 ++ os) = ok (List.replicate c (nV x)) (S3 ++ os) := by
      rw [← rep]
      simp [l2, l4, e3', atI_n, hc, c4, c5, c6]
    unfold b1_law_levels wipT
    rw [setS_ok (cat_ok (a := varM 1) (xs := P) rfl (fls_ok rg) (by rw [List.length_replicate]; omega))]
    rfl
  rw [List.length_range] at hl
  dsimp only at e2 h2 hl
  obtain ⟨f, hf⟩ : ∃ f : Nat → Nat → Bool, f = fun x y => decide (x < pl.length) && (decide (y < pl.length) && decide (pl.getD x 0 < pl.getD y 0)) := ⟨_, rfl⟩
  have ff : ∀ x y, f x y = true ↔ x < pl.length ∧ y < pl.length ∧ pl.getD x 0 < pl.getD y 0 := fun x y => by
    rw [hf]
    simp
  refine ⟨pl.length, f, S2, ?_, by omega, ⟨⟨fun x => pl.getD x 0, fun x y h => ((ff x y).mp h).2.2⟩, fun x y h => ⟨((ff x y).mp h).1, ((ff x y).mp h).2.1⟩, fun x y z h1 h2 => (ff x z).mpr ⟨((ff x y).mp h1).1, ((ff y z).mp h2).2.1, Nat.lt_trans ((ff x y).mp h1).2.2 ((ff y z).mp h2).2.2⟩⟩, h2⟩
  have l5 : pl.length ≤ lim := by unfold lim; omega
  have em : matV pl.length pl.length f = .fls (pl.map fun lo => .fls (pl.map fun hi => .bl (decide (lo < hi)))) := by
    show MV.fls (tb pl.length fun x => .fls (tb pl.length fun y => .bl (f x y))) = _
    rw [map_tb]
    congr 1
    refine tb_congr fun x hx => ?_
    rw [map_tb]
    congr 1
    refine tb_congr fun y hy => ?_
    rw [hf]
    simp [hx, hy]
  have inn := fun (lo : Nat) (h : MH) => lc_y (i := 3) (f := nV) (el := opM ltF (varM 4) (varM 3)) (s0 := [some (.ref 0), some (.fls (pl.map nV)), none, none, some (nV lo)]) (h := h) (fun hi => .bl (decide (lo < hi))) (xs := pl) l5 fun hi _ => by
    have : ((lo : Int) < (hi : Int)) ↔ lo < hi := by omega
    simp [this]
  have out := lc_y (i := 4) (f := nV) (el := flsM (lcM (seqI (varM 1)) [3] (one 3) yesT (opM ltF (varM 4) (varM 3)))) (s0 := [some (.ref 0), some (.fls (pl.map nV)), none, none, none]) (h := S2 ++ os) (fun lo => .fls (pl.map fun hi => .bl (decide (lo < hi)))) (xs := pl) l5 fun lo _ => by
    have := inn lo (S2 ++ os)
    generalize pl.map nV = P at *
    generalize (pl.map fun hi => MV.bl (decide (lo < hi))) = Q at *
    simp [this]
  refine defM_ret rfl ?_
  show m_law_levels [some (.ref 0), none, none, none, none] (S ++ os) = _
  unfold m_law_levels
  rw [seq_nx (s1 := [some (.ref 0), some (.fls []), none, none, none]) (h1 := S ++ os) (by simp [lim])]
  have q1 : (1 : Int) + (d : Int) ≤ 1000000 := by omega
  have q2 : (-1000000 : Int) ≤ 1 + (d : Int) := by omega
  have q3 : ((1 : Int) + (d : Int)).toNat = 1 + d := by omega
  rw [← run_0] at e2
  have s2 : preW [2] (forM (rng1 (consA (opM addF (cM (.int 1)) (callM f_law_take [] (consA (varM 0) (consA (cM (.int 4)) nilA)))) nilA)) (one 2) b1_law_levels) [some (.ref 0), some (.fls []), none, none, none] (S ++ os) = some (.nx [some (.ref 0), some (.fls (pl.map nV)), none, none, none] (S2 ++ os)) := by
    have rr : rng1 (consA (opM addF (cM (.int 1)) (callM f_law_take [] (consA (varM 0) (consA (cM (.int 4)) nilA)))) nilA) [some (.ref 0), some (.fls []), none, none, none] (S ++ os) = ok (.st (runOf 0 (1 + d))) (S1 ++ os) := by
      simp [e1', q1, q2, q3]
    show forM _ _ _ [some (.ref 0), some (.fls []), none, none, none] _ = _
    unfold forM
    rw [rr]
    exact e2
  rw [seq_nx s2, em]
  refine retS_ok ?_
  generalize pl.map nV = P at *
  generalize (pl.map fun lo => MV.fls (pl.map fun hi => .bl (decide (lo < hi)))) = Q at *
  simp [out]
end Mi.k18
set_option maxHeartbeats 4000000
namespace Mi.k18
open PySem L2
/-- links from the lower half to the upper half -/
def HF (k : Nat) (f : Nat → Nat → Bool) : Prop := ∀ x y, f x y = true → x < k ∧ k ≤ y ∧ y < 2 * k
theorem HF.ord {k : Nat} {f : Nat → Nat → Bool} (h : HF k f) : SOrd (2 * k) f := ⟨⟨fun x => if x < k then 0 else 1, fun x y e => by
  obtain ⟨a, b, c⟩ := h x y e
  show (if x < k then 0 else 1) < (if y < k then 0 else 1)
  rw [if_pos a, if_neg (by omega)]
  exact Nat.lt_succ_self 0⟩, fun x y e => by
  obtain ⟨a, b, c⟩ := h x y e
  omega, fun x y z e1 e2 => by
  have := h x y e1
  have := h y z e2
  omega⟩
theorem hp_top {h : MH} {p n : Nat} (hp : p = h.length) {f : Nat → Nat → Bool} : (h ++ matH p (rowsB n f))[p + n]? = some (.lst (refsM p n)) := tab_top hp.symm
theorem ring {k : Nat} {h : MH} (hk : k ≤ 32) : ∃ f : Nat → Nat → Bool, f_law_ring [.int (k : Int)] h = ok (matV (2 * k) (2 * k) f) h ∧ SOrd (2 * k) f := by
  obtain ⟨p, hp⟩ : ∃ p, p = h.length := ⟨_, rfl⟩
  obtain ⟨n, hn⟩ : ∃ n, n = 2 * k := ⟨_, rfl⟩
  have hn2 : (2 : Int) * (k : Int) = (n : Int) := by omega
  have q1 : (n : Int) ≤ 1000000 := by omega
  have q2 : (-1000000 : Int) ≤ n := by omega
  have l1 : n ≤ lim := by unfold lim; omega
  -- one link
  have lk : ∀ (f : Nat → Nat → Bool) (i lo : Nat), HF k f → i < k → lo < k → ∃ f', turnM (one 4) b1_law_ring (nV lo) [some (.int (k : Int)), some (.ref (p + n)), none, some (nV i), none, none] (h ++ matH p (rowsB n f)) = some (.nx [some (.int (k : Int)), some (.ref (p + n)), none, some (nV i), none, none] (h ++ matH p (rowsB n f'))) ∧ HF k f' := fun f i lo hf hi hlo => by
    have t0 := hp_top (n := n) (f := f) hp
    have t1 := tab_row (pre := h) (b := p) (n := n) (x := lo) (f := f) hp.symm (by omega)
    have ts := tab_set (pre := h) (b := p) (n := n) (x := lo) (f := f) (c := fun z => if z = k + i then true else f lo z) hp.symm (by omega)
    have rf := refs_get (b := p) (n := n) (i := lo) (by omega)
    rw [← rowB_set] at ts
    have rl : (rowB n (f lo)).length = n := rowB_len
    have hix : ixN n ((k : Int) + (i : Int)) = some (k + i) := by
      rw [show (k : Int) + (i : Int) = ((k + i : Nat) : Int) by omega, ixN_n, if_pos (by omega)]
    refine ⟨fun x => if x = lo then (fun z => if z = k + i then true else f lo z) else f x, ?_, fun x y e => ?_⟩
    · show b1_law_ring [some (.int (k : Int)), some (.ref (p + n)), none, some (nV i), some (nV lo), none] _ = _
      generalize h ++ matH p (rowsB n f) = H0 at *
      generalize h ++ matH p (rowsB n fun x => if x = lo then (fun z => if z = k + i then true else f lo z) else f x) = H1 at *
      simp [b1_law_ring, t0, atI_n, rf, t1, rl, hix, ts]
    · by_cases c : x = lo
      · have e' : (if x = lo then (fun z => if z = k + i then true else f lo z) else f x) y = true := e
        rw [if_pos c] at e'
        by_cases c2 : y = k + i
        · omega
        · rw [if_neg c2] at e'
          have := hf lo y e'
          omega
      · have e' : (if x = lo then (fun z => if z = k + i then true else f lo z) else f x) y = true := e
        rw [if_neg c] at e'
        exact hf x y e'
  obtain ⟨f, e, hf⟩ := for_m (f := nV) (bd := turnM (one 3) b2_law_ring) (xs := List.range k) (fun _ : Nat → Nat → Bool => [some (.int (k : Int)), some (.ref (p + n)), none, none, none, none]) (fun f => h ++ matH p (rowsB n f)) (fun _ f => HF k f) (a0 := fun _ _ => false) (fun _ _ z => (Bool.false_ne_true z).elim) fun i x f hx hf => by
    obtain ⟨hi, ex⟩ := List.getElem?_eq_some_iff.mp hx
    rw [List.getElem_range] at ex
    subst ex
    have hi' : i < k := by simpa using hi
    obtain ⟨m, hm, hmk⟩ : ∃ m : Nat, ((i : Int) + 1) % (k : Int) = (m : Int) ∧ m < k := ⟨(((i : Int) + 1) % (k : Int)).toNat, by
      have := Int.emod_nonneg ((i : Int) + 1) (show (k : Int) ≠ 0 by omega)
      omega, by
      have := Int.emod_nonneg ((i : Int) + 1) (show (k : Int) ≠ 0 by omega)
      have := Int.emod_lt_of_pos ((i : Int) + 1) (show 0 < (k : Int) by omega)
      omega⟩
    obtain ⟨f1, e1, h1⟩ := lk f i i hf hi' hi'
    obtain ⟨f2, e2, h2⟩ := lk f1 i m h1 hi' hmk
    refine ⟨f2, .inl ?_, h2⟩
    show b2_law_ring [some (.int (k : Int)), some (.ref (p + n)), none, some (nV i), none, none] _ = _
    have kp : 0 < (k : Int) := by omega
    have fr : forS (turnM (one 4) b1_law_ring) [nV i, nV m] [some (.int (k : Int)), some (.ref (p + n)), none, some (nV i), none, none] (h ++ matH p (rowsB n f)) = some (.nx [some (.int (k : Int)), some (.ref (p + n)), none, some (nV i), none, none] (h ++ matH p (rowsB n f2))) := (forS_nx e1).trans ((forS_nx e2).trans rfl)
    have ar : opM modF (bltM intF (consA (opM addF (varM 3) (cM (.int 1))) nilA)) (varM 0) [some (.int (k : Int)), some (.ref (p + n)), none, some (nV i), none, none] (h ++ matH p (rowsB n f)) = ok (nV m) (h ++ matH p (rowsB n f)) := by
      generalize h ++ matH p (rowsB n f) = H0 at *
      simp [kp, hm]
      omega
    generalize h ++ matH p (rowsB n f) = H0 at *
    generalize h ++ matH p (rowsB n f2) = H1 at *
    have sq : seqI (tupM (consA (varM 3) (consA (opM modF (bltM intF (consA (opM addF (varM 3) (cM (.int 1))) nilA)) (varM 0)) nilA))) [some (.int (k : Int)), some (.ref (p + n)), none, some (nV i), none, none] H0 = ok (.st [nV i, nV m]) H0 := by
      unfold seqI
      rw [tupM_ok (xs := [nV i, nV m]) (consA_ok rfl (consA_ok ar nil_ok)) (by simp)]
      rfl
    have fm : preW [4, 5] (forM (seqI (tupM (consA (varM 3) (consA (opM modF (bltM intF (consA (opM addF (varM 3) (cM (.int 1))) nilA)) (varM 0)) nilA)))) (one 4) b1_law_ring) [some (.int (k : Int)), some (.ref (p + n)), none, some (nV i), none, none] H0 = some (.nx [some (.int (k : Int)), some (.ref (p + n)), none, some (nV i), none, none] H1) := by
      show forM _ _ _ [some (.int (k : Int)), some (.ref (p + n)), none, some (nV i), none, none] H0 = _
      unfold forM
      rw [sq]
      exact fr
    unfold b2_law_ring wipT
    rw [fm]
    rfl
  have fz := frz_mat (b := p) (n := n) (rows := rowsB n f) (pre := h) (ks := []) rowsB_flat hp.symm rowsB_len
  rw [List.append_nil, List.append_nil, rowsB_fls] at fz
  refine ⟨f, ?_, hf.ord⟩
  rw [← hn]
  refine cut_p (os := List.replicate (n + 1) MO.dead) ?_ (by
    show cloL 0 (tb n fun x => MV.fls (tb n fun y => MV.bl (f x y))) = true
    refine cloL_iff.mpr fun z hz => ?_
    obtain ⟨i, _, ei⟩ := tb_mem.mp hz
    rw [← ei]
    refine cloL_iff.mpr fun w hw => ?_
    obtain ⟨i2, _, ei2⟩ := tb_mem.mp hw
    rw [← ei2]
    rfl)
  refine defM_ret rfl ?_
  show m_law_ring [some (.int (k : Int)), none, none, none, none, none] h = _
  unfold m_law_ring
  have mu : mulOk 2 (k : Int) := .inl ⟨by omega, by omega⟩
  have en := mat_new (i := 2) (f := nV) (s0 := [some (.int (k : Int)), none, none, none, none, none]) (m := repL (flsM (lstM (consA (cM (.bl false)) nilA))) (opM mulF (cM (.int 2)) (varM 0))) (fun _ => rowB n fun _ => false) (xs := List.range n) (h := h) (by simpa using l1) fun x _ h => by
    have l2 : 1 ≤ lim := by unfold lim; omega
    have rb := rep_bl (n := n) (v := false)
    simp [l2, mu, hn2, q1, q2, l1]
    simpa using rb
  rw [List.length_range, ← hp, ← run_0] at en
  have em : h ++ (List.range n).map (fun _ => MO.lst (rowB n fun _ => false)) ++ [MO.lst (refsM p n)] = h ++ matH p (rowsB n fun _ _ => false) := by
    unfold matH
    rw [rowsB_len, List.append_assoc]
    congr 2
    unfold rowsB tb
    rw [List.map_map]
    rfl
  have ll : (h ++ (List.range n).map (fun _ => MO.lst (rowB n fun _ => false))).length = p + n := by
    rw [List.length_append, ← hp]
    simp
  have rr : rng1 (consA (opM mulF (cM (.int 2)) (varM 0)) nilA) [some (.int (k : Int)), none, none, none, none, none] h = ok (.st (runOf 0 n)) h := by
    simp [mu, hn2, q1, q2]
  rw [seq_nx (s1 := [some (.int (k : Int)), some (.ref (p + n)), none, none, none, none]) (h1 := h ++ matH p (rowsB n fun _ _ => false)) (by
    rw [← em]
    unfold setS refM lcM
    rw [rr, bnd_ok]
    show bndS (((lcS (one 2) yesT (refM (repL (flsM (lstM (consA (cM (.bl false)) nilA))) (opM mulF (cM (.int 2)) (varM 0)))) [some (.int (k : Int)), none, none, none, none, none] (runOf 0 n) [] h).bnd _)) _ = _
    rw [en, bnd_ok, ll]
    rfl)]
  have k1 : (k : Int) ≤ 1000000 := by omega
  have k2 : (-1000000 : Int) ≤ k := by omega
  rw [← run_0] at e
  have s2 : preW [3, 4, 5] (forM (rng1 (consA (varM 0) nilA)) (one 3) b2_law_ring) [some (.int (k : Int)), some (.ref (p + n)), none, none, none, none] (h ++ matH p (rowsB n fun _ _ => false)) = some (.nx [some (.int (k : Int)), some (.ref (p + n)), none, none, none, none] (h ++ matH p (rowsB n f))) := by
    generalize h ++ matH p (rowsB n fun _ _ => false) = H0 at *
    generalize h ++ matH p (rowsB n f) = H1 at *
    simp [k1, k2, e]
  rw [seq_nx s2]
  refine retS_ok ?_
  show (match frzV 4 (.ref (p + n)) (h ++ matH p (rowsB n f)) with
    | some (y, h2) => ok y h2
    | none => none) = _
  rw [fz]
end Mi.k18
set_option maxHeartbeats 4000000
namespace Mi.k18
open PySem L2
theorem flt_lt {α : Type} {p q : α → Bool} : ∀ {xs : List α}, (∀ x ∈ xs, p x = true → q x = true) → (∃ x ∈ xs, q x = true ∧ p x = false) → (xs.filter p).length < (xs.filter q).length
  | [], _, ⟨x, hx, _⟩ => nomatch hx
  | y :: ys, h1, ⟨x, hx, hq, hp⟩ => by
    have le : ∀ {xs : List α}, (∀ x ∈ xs, p x = true → q x = true) → (xs.filter p).length ≤ (xs.filter q).length := fun {xs} => by
      induction xs with
      | nil => intro _; exact Nat.le_refl _
      | cons z zs ih =>
        intro h
        have i := ih fun x hx => h x (List.mem_cons_of_mem _ hx)
        cases c : p z with
        | true =>
          rw [List.filter_cons_of_pos c, List.filter_cons_of_pos (h z (List.mem_cons_self ..) c)]
          exact Nat.succ_le_succ i
        | false =>
          rw [List.filter_cons_of_neg (by rw [c]; exact Bool.false_ne_true)]
          cases c2 : q z with
          | true =>
            rw [List.filter_cons_of_pos c2]
            exact Nat.le_succ_of_le i
          | false =>
            rw [List.filter_cons_of_neg (by rw [c2]; exact Bool.false_ne_true)]
            exact i
    rcases List.mem_cons.mp hx with e | e
    · subst e
      rw [List.filter_cons_of_neg (by rw [hp]; exact Bool.false_ne_true), List.filter_cons_of_pos hq]
      exact Nat.lt_succ_of_le (le fun z hz => h1 z (List.mem_cons_of_mem _ hz))
    · have ih := flt_lt (fun z hz => h1 z (List.mem_cons_of_mem _ hz)) ⟨x, e, hq, hp⟩
      cases c : p y with
      | true =>
        rw [List.filter_cons_of_pos c, List.filter_cons_of_pos (h1 y (List.mem_cons_self ..) c)]
        exact Nat.succ_lt_succ ih
      | false =>
        rw [List.filter_cons_of_neg (by rw [c]; exact Bool.false_ne_true)]
        cases c2 : q y with
        | true =>
          rw [List.filter_cons_of_pos c2]
          exact Nat.lt_succ_of_lt ih
        | false =>
          rw [List.filter_cons_of_neg (by rw [c2]; exact Bool.false_ne_true)]
          exact ih
theorem ord_of {n : Nat} {f : Nat → Nat → Bool} (lt : ∀ x y, f x y = true → x < n ∧ y < n) (tr : ∀ x y z, f x y = true → f y z = true → f x z = true) (irr : ∀ x, f x x = true → False) : SOrd n f :=
  ⟨⟨fun y => ((List.range n).filter fun x => f x y).length, fun x y h => flt_lt (fun z _ hz => tr _ _ _ hz h) ⟨x, List.mem_range.mpr (lt x y h).1, h, by
    cases c : f x x with
    | false => rfl
    | true => exact (irr x c).elim⟩⟩, lt, tr⟩
/-- a new point n, above those of u, below those of v -/
def nw (n : Nat) (f : Nat → Nat → Bool) (u v : Nat → Bool) : Nat → Nat → Bool := fun x y => if x < n then (if y < n then f x y else decide (y = n) && u x) else (decide (x = n) && (decide (y < n) && v y))
theorem nw_iff {n x y : Nat} {f : Nat → Nat → Bool} {u v : Nat → Bool} : nw n f u v x y = true ↔ (x < n ∧ y < n ∧ f x y = true) ∨ (x < n ∧ y = n ∧ u x = true) ∨ (x = n ∧ y < n ∧ v y = true) := by
  unfold nw
  by_cases c1 : x < n
  · rw [if_pos c1]
    by_cases c2 : y < n
    · rw [if_pos c2]
      constructor
      · intro h
        exact .inl ⟨c1, c2, h⟩
      · intro h
        rcases h with h | h | h
        · exact h.2.2
        · omega
        · omega
    · rw [if_neg c2]
      simp
      constructor
      · intro h
        exact .inr (.inl ⟨c1, h⟩)
      · intro h
        rcases h with h | h | h
        · omega
        · exact h.2
        · omega
  · rw [if_neg c1]
    simp
    constructor
    · intro h
      exact .inr (.inr h)
    · intro h
      rcases h with h | h | h
      · omega
      · omega
      · exact h
/-- the parts fit -/
structure UV (n : Nat) (f : Nat → Nat → Bool) (u v : Nat → Bool) : Prop where
  mid : ∀ x y, u x = true → v y = true → f x y = true
  dn : ∀ x y, f x y = true → u y = true → u x = true
  up : ∀ x y, v x = true → f x y = true → v y = true
theorem UV.ord {n : Nat} {f : Nat → Nat → Bool} {u v : Nat → Bool} (o : SOrd n f) (h : UV n f u v) : SOrd (n + 1) (nw n f u v) := by
  refine ord_of (fun x y e => ?_) (fun x y z e1 e2 => ?_) fun x e => ?_
  · rcases nw_iff.mp e with h | h | h <;> omega
  · rw [nw_iff]
    rcases nw_iff.mp e1 with a | a | a <;> rcases nw_iff.mp e2 with b | b | b
    · exact .inl ⟨a.1, b.2.1, o.tr _ _ _ a.2.2 b.2.2⟩
    · exact .inr (.inl ⟨a.1, b.2.1, h.dn _ _ a.2.2 b.2.2⟩)
    · omega
    · omega
    · omega
    · exact .inl ⟨a.1, b.2.1, h.mid _ _ a.2.2 b.2.2⟩
    · exact .inr (.inr ⟨a.1, b.2.1, h.up _ _ a.2.2 b.2.2⟩)
    · have := h.mid _ _ b.2.2 a.2.2
      rw [o.irr] at this
      cases this
    · omega
  · rcases nw_iff.mp e with h | h | h
    · rw [o.irr] at h
      exact Bool.false_ne_true h.2.2
    · omega
    · omega
/-- a part, taken up one by one, above q -/
structure Ov (f : Nat → Nat → Bool) (q : Nat) (v : Nat → Bool) : Prop where
  ab : ∀ y, v y = true → f q y = true
  up : ∀ x y, v x = true → f x y = true → v y = true
theorem Ov.add {n : Nat} {f : Nat → Nat → Bool} {q y : Nat} {v : Nat → Bool} (o : SOrd n f) (h : Ov f q v) (hq : f q y = true) : Ov f q fun z => v z || (decide (z = y) || f y z) := ⟨fun z hz => by
  rw [Bool.or_eq_true, Bool.or_eq_true, decide_eq_true_iff] at hz
  rcases hz with a | a | a
  · exact h.ab z a
  · rw [a]
    exact hq
  · exact o.tr _ _ _ hq a, fun x z hx hz => by
  rw [Bool.or_eq_true, Bool.or_eq_true, decide_eq_true_iff] at hx ⊢
  rcases hx with a | a | a
  · exact .inl (h.up _ _ a hz)
  · rw [a] at hz
    exact .inr (.inr hz)
  · exact .inr (.inr (o.tr _ _ _ a hz))⟩
theorem Ov.uv {n q : Nat} {f : Nat → Nat → Bool} {v : Nat → Bool} (o : SOrd n f) (h : Ov f q v) : UV n f (fun x => decide (x = q) || f x q) v := ⟨fun x y hx hy => by
  rw [Bool.or_eq_true, decide_eq_true_iff] at hx
  rcases hx with a | a
  · rw [a]
    exact h.ab y hy
  · exact o.tr _ _ _ a (h.ab y hy), fun x y hxy hy => by
  rw [Bool.or_eq_true, decide_eq_true_iff] at hy ⊢
  rcases hy with a | a
  · rw [a] at hxy
    exact .inr hxy
  · exact .inr (o.tr _ _ _ hxy a), h.up⟩
/-- .. below q -/
structure Un (f : Nat → Nat → Bool) (q : Nat) (u : Nat → Bool) : Prop where
  be : ∀ y, u y = true → f y q = true
  dn : ∀ x y, f x y = true → u y = true → u x = true
theorem Un.add {n : Nat} {f : Nat → Nat → Bool} {q y : Nat} {u : Nat → Bool} (o : SOrd n f) (h : Un f q u) (hq : f y q = true) : Un f q fun z => u z || (decide (z = y) || f z y) := ⟨fun z hz => by
  rw [Bool.or_eq_true, Bool.or_eq_true, decide_eq_true_iff] at hz
  rcases hz with a | a | a
  · exact h.be z a
  · rw [a]
    exact hq
  · exact o.tr _ _ _ a hq, fun x z hxz hz => by
  rw [Bool.or_eq_true, Bool.or_eq_true, decide_eq_true_iff] at hz ⊢
  rcases hz with a | a | a
  · exact .inl (h.dn _ _ hxz a)
  · rw [a] at hxz
    exact .inr (.inr hxz)
  · exact .inr (.inr (o.tr _ _ _ hxz a))⟩
theorem Un.uv {n q : Nat} {f : Nat → Nat → Bool} {u : Nat → Bool} (o : SOrd n f) (h : Un f q u) : UV n f u (fun x => decide (x = q) || f q x) := ⟨fun x y hx hy => by
  rw [Bool.or_eq_true, decide_eq_true_iff] at hy
  rcases hy with a | a
  · rw [a]
    exact h.be x hx
  · exact o.tr _ _ _ (h.be x hx) a, h.dn, fun x y hx hxy => by
  rw [Bool.or_eq_true, decide_eq_true_iff] at hx ⊢
  rcases hx with a | a
  · rw [a] at hxy
    exact .inr hxy
  · exact .inr (o.tr _ _ _ a hxy)⟩
theorem nw_mat {n : Nat} {f : Nat → Nat → Bool} {u v : Nat → Bool} : matV (n + 1) (n + 1) (nw n f u v) = .fls ((tb n fun x => MV.fls (rowB n (f x) ++ [.bl (u x)])) ++ [.fls (rowB n v ++ [.bl false])]) := by
  show MV.fls (tb (n + 1) fun x => MV.fls (rowB (n + 1) (nw n f u v x))) = _
  have r : ∀ (c : Nat → Bool), rowB (n + 1) c = rowB n c ++ [.bl (c n)] := fun c => by
    unfold rowB tb
    rw [List.range_succ, List.map_append]
    rfl
  have t : ∀ {α : Type} (F : Nat → α), tb (n + 1) F = tb n F ++ [F n] := fun F => by
    unfold tb
    rw [List.range_succ, List.map_append]
    rfl
  rw [t]
  congr 2
  · refine tb_congr fun x hx => ?_
    rw [r]
    congr 2
    · refine rowB_congr fun y hy => ?_
      unfold nw
      rw [if_pos hx, if_pos hy]
    · unfold nw
      rw [if_pos hx, if_neg (Nat.lt_irrefl n)]
      simp
  · rw [r]
    congr 3
    · refine rowB_congr fun y hy => ?_
      unfold nw
      rw [if_neg (Nat.lt_irrefl n)]
      simp [hy]
    · unfold nw
      rw [if_neg (Nat.lt_irrefl n)]
      simp
end Mi.k18
set_option maxHeartbeats 4000000
namespace Mi.k18
open PySem L2
theorem orV_bl {a b : ME} {s : MS} {h : MH} {x y : Bool} (e1 : a s h = ok (.bl x) h) (e2 : x = false → b s h = ok (.bl y) h) : orV a b s h = ok (.bl (x || y)) h := by
  unfold orV
  rw [e1, bnd_ok]
  cases x with
  | true => rfl
  | false => exact e2 rfl
theorem ix_mat {n x y : Nat} {f : Nat → Nat → Bool} {a b : ME} {s : MS} {h : MH} {m : ME} (em : m s h = ok (matV n n f) h) (ea : a s h = ok (nV x) h) (eb : b s h = ok (nV y) h) (hx : x < n) (hy : y < n) : opM ixF (opM ixF m a) b s h = ok (.bl (f x y)) h := by
  have t1 : (tb n fun x => MV.fls (tb n fun y => MV.bl (f x y)))[x]? = some (.fls (tb n fun y => .bl (f x y))) := tb_get hx
  have t2 : (tb n fun y => MV.bl (f x y))[y]? = some (.bl (f x y)) := tb_get hy
  unfold opM
  rw [em, bnd_ok, ea, bnd_ok]
  have i1 : ixF (matV n n f) (nV x) h = ok (.fls (tb n fun y => .bl (f x y))) h := by simp [matV, atI_n, t1]
  rw [i1, bnd_ok, eb, bnd_ok]
  simp [atI_n, t2]
theorem ix_row {n y : Nat} {c : Nat → Bool} {a b : ME} {s : MS} {h : MH} (ea : a s h = ok (.fls (rowB n c)) h) (eb : b s h = ok (nV y) h) (hy : y < n) : opM ixF a b s h = ok (.bl (c y)) h := by
  have t := rowB_get (c := c) hy
  unfold opM
  rw [ea, bnd_ok, eb, bnd_ok]
  simp [atI_n, t]
theorem eq_nn {a b : ME} {s : MS} {h : MH} {x y : Nat} (ea : a s h = ok (nV x) h) (eb : b s h = ok (nV y) h) : opM eqF a b s h = ok (.bl (decide (x = y))) h := by
  unfold opM
  rw [ea, bnd_ok, eb, bnd_ok]
  show ok (MV.bl (decide ((x : Int) = (y : Int)))) h = _
  rw [show decide ((x : Int) = (y : Int)) = decide (x = y) from decide_eq_decide.mpr (by omega)]
theorem rg_n {n : Nat} (hn : n ≤ 100000) {a : ME} {s : MS} {h : MH} (ea : a s h = ok (nV n) h) : rng1 (consA a nilA) s h = ok (.st ((List.range n).map nV)) h := by
  unfold rng1
  rw [consA_ok ea nil_ok, bnd_ok]
  exact rng1_n (by omega)
theorem lcM_st {mi : MM MIter} {vs : List Nat} {g : MG} {cd : MM Bool} {el : ME} {s : MS} {h h1 : MH} {its : List MV} (e : mi s h = ok (.st its) h1) : lcM mi vs g cd el s h = lcS g cd el (wipeM s vs) its [] h1 := by
  unfold lcM
  rw [e]
  rfl
/-- a row of truth values, computed -/
theorem rowL {n i : Nat} (hn : n ≤ 64) {a el : ME} {s : MS} {h : MH} (c : Nat → Bool) (ea : a s h = ok (nV n) h) (hs : ∀ x, x < n → el ((wipeM s [i]).set i (some (nV x))) h = ok (.bl (c x)) h) : flsM (lcM (rng1 (consA a nilA)) [i] (one i) yesT el) s h = ok (.fls (rowB n c)) h := by
  refine fls_ok ?_
  rw [lcM_st (rg_n (by omega) ea), lc_y (fun x => .bl (c x)) (by rw [List.length_range]; unfold lim; omega) fun x hx => hs x (List.mem_range.mp hx)]
  rfl
def gS (n many w q : Nat) (f : Nat → Nat → Bool) (t4 : Option MV) (u v : Nat → Bool) (x10 : Option MV) : MS := [some (.ref 0), some (matV n n f), some (nV many), some (.ref w), t4, some (nV n), some (nV q), some (.fls (rowB n u)), some (.fls (rowB n v)), none, x10, none]
theorem andT_draw {a b : MM Bool} {s : MS} {h h1 : MH} {c : Bool} (e1 : a s h = ok true h) (e2 : b s h = ok c h1) : andT a b s h = ok c h1 := by
  unfold andT
  rw [e1, bnd_ok, if_pos rfl, e2]
theorem tk0 {S S' os : MH} {s : MS} {m d : Nat} (e : f_law_take [.ref 0, nV m] (S ++ os) = ok (nV d) (S' ++ os)) (hs : varM 0 s (S ++ os) = ok (.ref 0) (S ++ os)) : tstM (opM eqF (callM f_law_take [] (consA (varM 0) (consA (cM (nV m)) nilA))) (cM (.int 0))) s (S ++ os) = ok (decide (d = 0)) (S' ++ os) := by
  have c : callM f_law_take [] (consA (varM 0) (consA (cM (nV m)) nilA)) s (S ++ os) = ok (nV d) (S' ++ os) := callM_ok (xs := [.ref 0, nV m]) (consA_ok hs (consA_ok rfl nil_ok)) e
  unfold tstM opM
  rw [c, bnd_ok]
  show ok (decide ((d : Int) = 0)) _ = _
  congr 1
  exact decide_eq_decide.mpr (by omega)
theorem gd_turn {S os : MH} {n many w q y : Nat} {f : Nat → Nat → Bool} {t4 : Option MV} {u v : Nat → Bool} (hS : St S) (hn : n ≤ 64) (o : SOrd n f) (hq : q < n) (hy : y < n) (hv : Ov f q v) :
    ∃ (S' : MH) (v' : Nat → Bool), turnM (one 10) b1_law_grown (nV y) (gS n many w q f t4 u v none) (S ++ os) = some (.nx (gS n many w q f t4 u v' none) (S' ++ os)) ∧ Ov f q v' ∧ St S' := by
  have x1 : truM (opM ixF (opM ixF (varM 1) (varM 6)) (varM 10)) (gS n many w q f t4 u v (some (nV y))) (S ++ os) = ok (f q y) (S ++ os) := by
    unfold truM
    rw [ix_mat (x := q) (y := y) rfl rfl rfl hq hy]
    rfl
  show ∃ (S' : MH) (v' : Nat → Bool), b1_law_grown (gS n many w q f t4 u v (some (nV y))) (S ++ os) = _ ∧ _
  unfold b1_law_grown wipT
  cases c : f q y with
  | false =>
    rw [c] at x1
    refine ⟨S, v, ?_, hv, hS⟩
    rw [ifS_f (by unfold andT; rw [x1, bnd_ok, if_neg Bool.false_ne_true])]
    rfl
  | true =>
    rw [c] at x1
    obtain ⟨d, S1, e1, _, h1⟩ := take (os := os) (m := 3) hS (by omega) (by omega)
    have x0 : tstM (opM eqF (callM f_law_take [] (consA (varM 0) (consA (cM (.int 3)) nilA))) (cM (.int 0))) (gS n many w q f t4 u v (some (nV y))) (S ++ os) = ok (decide (d = 0)) (S1 ++ os) := tk0 e1 rfl
    have x2 := andT_draw x1 x0
    by_cases cd : d = 0
    · rw [decide_eq_true cd] at x2
      refine ⟨S1, _, ?_, hv.add o c, h1⟩
      have el := rowL (i := 11) hn (a := varM 5) (el := orV (opM ixF (varM 8) (varM 11)) (orV (opM eqF (varM 11) (varM 10)) (opM ixF (opM ixF (varM 1) (varM 10)) (varM 11)))) (s := gS n many w q f t4 u v (some (nV y))) (h := S1 ++ os) (fun z => v z || (decide (z = y) || f y z)) rfl fun z hz => by
        refine orV_bl (ix_row rfl rfl hz) fun _ => orV_bl (eq_nn rfl rfl) fun _ => ix_mat rfl rfl rfl hy hz
      rw [ifS_t x2, setS_ok el]
      rfl
    · rw [decide_eq_false cd] at x2
      refine ⟨S1, v, ?_, hv, h1⟩
      rw [ifS_f x2]
      rfl
theorem gu_turn {S os : MH} {n many w q y : Nat} {f : Nat → Nat → Bool} {t4 : Option MV} {u v : Nat → Bool} (hS : St S) (hn : n ≤ 64) (o : SOrd n f) (hq : q < n) (hy : y < n) (hu : Un f q u) :
    ∃ (S' : MH) (u' : Nat → Bool), turnM (one 10) b2_law_grown (nV y) (gS n many w q f t4 u v none) (S ++ os) = some (.nx (gS n many w q f t4 u' v none) (S' ++ os)) ∧ Un f q u' ∧ St S' := by
  have x1 : truM (opM ixF (opM ixF (varM 1) (varM 10)) (varM 6)) (gS n many w q f t4 u v (some (nV y))) (S ++ os) = ok (f y q) (S ++ os) := by
    unfold truM
    rw [ix_mat (x := y) (y := q) rfl rfl rfl hy hq]
    rfl
  show ∃ (S' : MH) (u' : Nat → Bool), b2_law_grown (gS n many w q f t4 u v (some (nV y))) (S ++ os) = _ ∧ _
  unfold b2_law_grown wipT
  cases c : f y q with
  | false =>
    rw [c] at x1
    refine ⟨S, u, ?_, hu, hS⟩
    rw [ifS_f (by unfold andT; rw [x1, bnd_ok, if_neg Bool.false_ne_true])]
    rfl
  | true =>
    rw [c] at x1
    obtain ⟨d, S1, e1, _, h1⟩ := take (os := os) (m := 3) hS (by omega) (by omega)
    have x0 : tstM (opM eqF (callM f_law_take [] (consA (varM 0) (consA (cM (.int 3)) nilA))) (cM (.int 0))) (gS n many w q f t4 u v (some (nV y))) (S ++ os) = ok (decide (d = 0)) (S1 ++ os) := tk0 e1 rfl
    have x2 := andT_draw x1 x0
    by_cases cd : d = 0
    · rw [decide_eq_true cd] at x2
      refine ⟨S1, _, ?_, hu.add o c, h1⟩
      have el := rowL (i := 11) hn (a := varM 5) (el := orV (opM ixF (varM 7) (varM 11)) (orV (opM eqF (varM 11) (varM 10)) (opM ixF (opM ixF (varM 1) (varM 11)) (varM 10)))) (s := gS n many w q f t4 u v (some (nV y))) (h := S1 ++ os) (fun z => u z || (decide (z = y) || f z y)) rfl fun z hz => by
        refine orV_bl (ix_row rfl rfl hz) fun _ => orV_bl (eq_nn rfl rfl) fun _ => ix_mat rfl rfl rfl hz hy
      rw [ifS_t x2, setS_ok el]
      rfl
    · rw [decide_eq_false cd] at x2
      refine ⟨S1, u, ?_, hu, h1⟩
      rw [ifS_f x2]
      rfl
end Mi.k18
set_option maxHeartbeats 4000000
namespace Mi.k18
open PySem L2
theorem mat_row_ {n x : Nat} {f : Nat → Nat → Bool} {a m : ME} {s : MS} {h : MH} (em : m s h = ok (matV n n f) h) (ea : a s h = ok (nV x) h) (hx : x < n) : opM ixF m a s h = ok (.fls (rowB n (f x))) h := by
  have t1 : (tb n fun x => MV.fls (tb n fun y => MV.bl (f x y)))[x]? = some (.fls (tb n fun y => .bl (f x y))) := tb_get hx
  unfold opM
  rw [em, bnd_ok, ea, bnd_ok]
  simp [matV, atI_n, t1]
  rfl
theorem g_fin {n many w q : Nat} {f : Nat → Nat → Bool} {t4 : Option MV} {u v : Nat → Bool} {h : MH} (hn : n ≤ 64) :
    setS 1 (flsM (catL (flsM (lcM (rng1 (consA (varM 5) nilA)) [9] (one 9) yesT (flsM (catL (opM ixF (varM 1) (varM 9)) (flsM (lstM (consA (opM ixF (varM 7) (varM 9)) nilA))))))) (flsM (lstM (consA (flsM (catL (varM 8) (flsM (lstM (consA (cM (.bl false)) nilA))))) nilA))))) (gS n many w q f t4 u v none) h =
      some (.nx ((gS n many w q f t4 u v none).set 1 (some (matV (n + 1) (n + 1) (nw n f u v)))) h) := by
  refine setS_ok ?_
  rw [nw_mat]
  refine cat_ok (h1 := h) (fls_ok ?_) (lst_ok (consA_ok (cat_ok (a := varM 8) (xs := rowB n v) rfl (lst_ok (consA_ok (a := cM (.bl false)) rfl nil_ok) (by simp)) (by rw [rowB_len]; show n + 1 ≤ 1000; omega)) nil_ok) (by simp)) (by rw [tb_len]; show n + 1 ≤ 1000; omega)
  rw [lcM_st (rg_n (by omega) (show varM 5 _ _ = ok (nV n) _ from rfl)), lc_y (fun x => .fls (rowB n (f x) ++ [.bl (u x)])) (by rw [List.length_range]; unfold lim; omega) fun x hx => by
    have hx' := List.mem_range.mp hx
    exact cat_ok (mat_row_ rfl rfl hx') (lst_ok (consA_ok (ix_row (c := u) rfl rfl hx') nil_ok) (by simp)) (by rw [rowB_len]; show n + 1 ≤ 1000; omega)]
  rfl
theorem g_loop1 {S os : MH} {n many w q : Nat} {f : Nat → Nat → Bool} {t4 : Option MV} {u v : Nat → Bool} (hS : St S) (hn : n ≤ 64) (o : SOrd n f) (hq : q < n) (hv : Ov f q v) :
    ∃ (S' : MH) (v' : Nat → Bool), preW [10] (forM (rng1 (consA (varM 5) nilA)) (one 10) b1_law_grown) (gS n many w q f t4 u v none) (S ++ os) = some (.nx (gS n many w q f t4 u v' none) (S' ++ os)) ∧ Ov f q v' ∧ St S' := by
  obtain ⟨⟨S2, v2⟩, e, h2, hv2⟩ := for_m (f := nV) (bd := turnM (one 10) b1_law_grown) (xs := List.range n) (fun s : MH × (Nat → Bool) => gS n many w q f t4 u s.2 none) (fun s => s.1 ++ os) (fun _ s => St s.1 ∧ Ov f q s.2) (a0 := (S, v)) ⟨hS, hv⟩ fun i x s hx ⟨q1, q2⟩ => by
    have hx' := List.mem_range.mp (List.mem_of_getElem? hx)
    obtain ⟨S3, v3, e3, o3, h3⟩ := gd_turn (many := many) (w := w) (t4 := t4) (u := u) (os := os) q1 hn o hq hx' q2
    exact ⟨(S3, v3), .inl e3, h3, o3⟩
  refine ⟨S2, v2, ?_, hv2, h2⟩
  show forM _ _ _ (gS n many w q f t4 u v none) (S ++ os) = _
  unfold forM
  rw [rg_n (by omega) (show varM 5 (gS n many w q f t4 u v none) (S ++ os) = ok (nV n) _ from rfl)]
  exact e
theorem g_loop2 {S os : MH} {n many w q : Nat} {f : Nat → Nat → Bool} {t4 : Option MV} {u v : Nat → Bool} (hS : St S) (hn : n ≤ 64) (o : SOrd n f) (hq : q < n) (hu : Un f q u) :
    ∃ (S' : MH) (u' : Nat → Bool), preW [10] (forM (rng1 (consA (varM 5) nilA)) (one 10) b2_law_grown) (gS n many w q f t4 u v none) (S ++ os) = some (.nx (gS n many w q f t4 u' v none) (S' ++ os)) ∧ Un f q u' ∧ St S' := by
  obtain ⟨⟨S2, v2⟩, e, h2, hv2⟩ := for_m (f := nV) (bd := turnM (one 10) b2_law_grown) (xs := List.range n) (fun s : MH × (Nat → Bool) => gS n many w q f t4 s.2 v none) (fun s => s.1 ++ os) (fun _ s => St s.1 ∧ Un f q s.2) (a0 := (S, u)) ⟨hS, hu⟩ fun i x s hx ⟨q1, q2⟩ => by
    have hx' := List.mem_range.mp (List.mem_of_getElem? hx)
    obtain ⟨S3, v3, e3, o3, h3⟩ := gu_turn (many := many) (w := w) (t4 := t4) (v := v) (os := os) q1 hn o hq hx' q2
    exact ⟨(S3, v3), .inl e3, h3, o3⟩
  refine ⟨S2, v2, ?_, hv2, h2⟩
  show forM _ _ _ (gS n many w q f t4 u v none) (S ++ os) = _
  unfold forM
  rw [rg_n (by omega) (show varM 5 (gS n many w q f t4 u v none) (S ++ os) = ok (nV n) _ from rfl)]
  exact e
theorem rep_f {n : Nat} {a : ME} {s : MS} {h : MH} (hn : n ≤ 64) (ea : a s h = ok (nV n) h) : flsM (repL (flsM (lstM (consA (cM (.bl false)) nilA))) a) s h = ok (.fls (rowB n fun _ => false)) h := by
  refine fls_ok ?_
  have q1 : (n : Int) ≤ 1000000 := by omega
  have q2 : (-1000000 : Int) ≤ n := by omega
  unfold repL
  rw [lst_ok (xs := [.bl false]) (consA_ok rfl nil_ok) (by simp), bnd_ok, ea, bnd_ok]
  show (if ((n : Int) ≤ 1000000 ∧ -1000000 ≤ (n : Int)) ∧ 1 * ((n : Int)).toNat ≤ lim then ok (List.replicate ((n : Int)).toNat [MV.bl false]).flatten h else none) = _
  rw [if_pos ⟨⟨q1, q2⟩, by rw [Int.toNat_natCast]; unfold lim; omega⟩, Int.toNat_natCast, rep_bl]
theorem set_last {ws : List MV} {S os : MH} {w n many q : Nat} {f : Nat → Nat → Bool} {t4 : Option MV} {u v : Nat → Bool} {x : Str} (hS : St S) (hw : w = 1 + os.length) : subS (cM (.str x)) (varM 3) (unM negF (cM (.int 1))) (gS n many w q f t4 u v none) (S ++ (os ++ [MO.lst (ws ++ [MV.str ""])])) = some (.nx (gS n many w q f t4 u v none) (S ++ (os ++ [MO.lst (ws ++ [MV.str x])]))) := by
  have b := at_ hS hw (o := .lst (ws ++ [.str ""])) (t := [])
  have s := set_ hS hw (o := .lst (ws ++ [MV.str ""])) (o2 := .lst ((ws ++ [MV.str ""]).set ws.length (MV.str x))) (t := [])
  have e1 : (ws ++ [MV.str ""]).set ws.length (.str x) = ws ++ [.str x] := by rw [List.set_append_right _ _ (Nat.le_refl _), Nat.sub_self]; rfl
  rw [e1] at s
  have hix : ixN (ws ++ [MV.str ""]).length (-1) = some ws.length := by
    unfold ixN
    rw [List.length_append]
    simp
    omega
  unfold subS
  show bndS (ok (MV.str x) _) _ = _
  have wr : wrF w (-1) (MV.str x) (S ++ (os ++ [MO.lst (ws ++ [MV.str ""])])) = some (S ++ (os ++ [MO.lst (ws ++ [MV.str x])])) := by
    unfold wrF
    rw [b]
    show (match ixN (ws ++ [MV.str ""]).length (-1) with | some j => some ((S ++ (os ++ [MO.lst (ws ++ [MV.str ""])])).set w (MO.lst ((ws ++ [MV.str ""]).set j (MV.str x)))) | none => none) = _
    rw [hix]
    show some ((S ++ (os ++ [MO.lst (ws ++ [MV.str ""])])).set w (MO.lst ((ws ++ [MV.str ""]).set ws.length (MV.str x)))) = _
    rw [e1, s]
  show (match wrF w (-1) (MV.str x) (S ++ (os ++ [MO.lst (ws ++ [MV.str ""])])) with | some h4 => some (OutS.nx _ h4) | none => none) = _
  rw [wr]
end Mi.k18
set_option maxHeartbeats 4000000
namespace Mi.k18
open PySem L2
def gS0 (n many w : Nat) (f : Nat → Nat → Bool) (t4 : Option MV) : MS := [some (.ref 0), some (matV n n f), some (nV many), some (.ref w), t4, none, none, none, none, none, none, none]
theorem len_mat {n : Nat} {f : Nat → Nat → Bool} {a : ME} {s : MS} {h : MH} (ea : a s h = ok (matV n n f) h) : bltM lenF (consA a nilA) s h = ok (nV n) h := by
  refine blt_ok (consA_ok ea nil_ok) ?_
  simp [matV, tb_len]
theorem max1 {n : Nat} {a : ME} {s : MS} {h : MH} (ea : a s h = ok (nV n) h) : bltM max2F (consA (cM (.int 1)) (consA a nilA)) s h = ok (nV (max 1 n)) h := by
  refine blt_ok (consA_ok rfl (consA_ok ea nil_ok)) ?_
  show ok (MV.int (if (n : Int) > 1 then (n : Int) else 1)) h = ok (MV.int _) h
  congr 2
  split <;> omega
theorem app_last {ws : List MV} {S os : MH} {w n many q : Nat} {f : Nat → Nat → Bool} {t4 : Option MV} {u v : Nat → Bool} (hS : St S) (hw : w = 1 + os.length) (hl : ws.length ≤ 100) : dropS (mthM appF (varM 3) (consA (cM (.str "")) nilA)) (gS n many w q f t4 u v none) (S ++ (os ++ [MO.lst ws])) = some (.nx (gS n many w q f t4 u v none) (S ++ (os ++ [MO.lst (ws ++ [MV.str ""])]))) := by
  have b := at_ hS hw (o := .lst ws) (t := [])
  have s := set_ hS hw (o := .lst ws) (o2 := .lst (ws ++ [MV.str ""])) (t := [])
  rw [t_drop (r_app (l := w) (xs := ws) (ys := ws) (y := .str "") rfl (consA_ok rfl r_nil) b b (by omega)), s]
theorem gt0 {n : Nat} {a : ME} {s : MS} {h : MH} (ea : a s h = ok (nV n) h) : tstM (opM gtF a (cM (.int 0))) s h = ok (decide (0 < n)) h := by
  unfold tstM opM
  rw [ea, bnd_ok]
  show ok (decide ((n : Int) > 0)) h = _
  congr 1
  exact decide_eq_decide.mpr (by omega)
theorem g_turn {S os : MH} {n many w : Nat} {f : Nat → Nat → Bool} {ws : List MV} (i : MV) (hS : St S) (hn : n ≤ 63) (o : SOrd n f) (hw : w = 1 + os.length) (hl : ws.length ≤ 99) :
    ∃ (S' : MH) (f' : Nat → Nat → Bool) (z : MV), turnM (one 4) b3_law_grown i (gS0 n many w f none) (S ++ (os ++ [.lst ws])) = some (.nx (gS0 (n + 1) many w f' none) (S' ++ (os ++ [.lst (ws ++ [z])]))) ∧ SOrd (n + 1) f' ∧ St S' := by
  obtain ⟨q, S1, e1, hq, h1⟩ := take (os := os ++ [.lst ws]) (m := max 1 n) hS (by omega) (by omega)
  show ∃ (S' : MH) (f' : Nat → Nat → Bool) (z : MV), b3_law_grown (gS0 n many w f (some i)) (S ++ (os ++ [.lst ws])) = _ ∧ _
  unfold b3_law_grown
  rw [wip_seq (setS_ok (len_mat rfl)), wip_seq (setS_ok (callM_ok (consA_ok rfl (consA_ok (max1 rfl) nil_ok)) e1)),
    wip_seq (setS_ok (rep_f (n := n) (by omega) rfl)), wip_seq (setS_ok (rep_f (n := n) (by omega) rfl)),
    wip_seq (s1 := gS n many w q f (some i) (fun _ => false) (fun _ => false) none) (h1 := S1 ++ (os ++ [.lst (ws ++ [.str ""])])) (app_last h1 hw (by omega))]
  by_cases c0 : n = 0
  · subst c0
    have t0 : ∀ (a b : MT) (m : MM Bool), ifS (andT (tstM (opM gtF (varM 5) (cM (.int 0)))) m) a (ifS (tstM (opM gtF (varM 5) (cM (.int 0)))) b nilS) (gS 0 many w q f (some i) (fun _ => false) (fun _ => false) none) (S1 ++ (os ++ [.lst (ws ++ [.str ""])])) = some (.nx (gS 0 many w q f (some i) (fun _ => false) (fun _ => false) none) (S1 ++ (os ++ [.lst (ws ++ [.str ""])]))) := fun a b m => by
      have g : tstM (opM gtF (varM 5) (cM (.int 0))) (gS 0 many w q f (some i) (fun _ => false) (fun _ => false) none) (S1 ++ (os ++ [.lst (ws ++ [.str ""])])) = ok false (S1 ++ (os ++ [.lst (ws ++ [.str ""])])) := (gt0 (n := 0) rfl).trans rfl
      rw [ifS_f (by unfold andT; rw [g, bnd_ok, if_neg Bool.false_ne_true]), ifS_f g]
      rfl
    rw [wip_seq (t0 _ _ _), wip_nx (g_fin (by omega))]
    refine ⟨S1, _, .str "", rfl, UV.ord o ⟨(fun x y hx => nomatch hx), (fun x y _ hy => nomatch hy), (fun x y hx => nomatch hx)⟩, h1⟩
  · have hq' : q < n := by omega
    have g : ∀ {u v : Nat → Bool} {S : MH} {zs : List MV}, tstM (opM gtF (varM 5) (cM (.int 0))) (gS n many w q f (some i) u v none) (S ++ (os ++ [.lst zs])) = ok true (S ++ (os ++ [.lst zs])) := fun {u v S zs} => by
      rw [gt0 (n := n) rfl, decide_eq_true (by omega)]
    obtain ⟨d, S2, e2, hd, h2⟩ := take (os := os ++ [.lst (ws ++ [.str ""])]) (m := 2) h1 (by omega) (by omega)
    have x0 := andT_draw (g (u := fun _ => false) (v := fun _ => false) (S := S1) (zs := ws ++ [.str ""])) (tk0 (s := gS n many w q f (some i) (fun _ => false) (fun _ => false) none) e2 rfl)
    by_cases cd : d = 0
    · rw [decide_eq_true cd] at x0
      obtain ⟨S3, v3, e3, hv3, h3⟩ := g_loop1 (S := S2) (os := os ++ [.lst (ws ++ [.str "down"])]) (many := many) (w := w) (t4 := some i) (u := fun x => decide (x = q) || f x q) (v := fun _ => false) h2 (by omega) o hq' ⟨(fun y hy => nomatch hy), (fun x y hx => nomatch hx)⟩
      refine ⟨S3, _, .str "down", ?_, UV.ord o (hv3.uv o), h3⟩
      have st : seqS (subS (cM (.str "down")) (varM 3) (unM negF (cM (.int 1)))) (seqS (setS 7 (flsM (lcM (rng1 (consA (varM 5) nilA)) [9] (one 9) yesT (orV (opM eqF (varM 9) (varM 6)) (opM ixF (opM ixF (varM 1) (varM 9)) (varM 6))))))
          (preW [10] (forM (rng1 (consA (varM 5) nilA)) (one 10) b1_law_grown))) (gS n many w q f (some i) (fun _ => false) (fun _ => false) none) (S2 ++ (os ++ [.lst (ws ++ [.str ""])])) = some (.nx (gS n many w q f (some i) (fun x => decide (x = q) || f x q) v3 none) (S3 ++ (os ++ [.lst (ws ++ [.str "down"])]))) := by
        rw [seq_nx (set_last h2 hw), seq_nx (setS_ok (rowL (n := n) (i := 9) (by omega) (fun x => decide (x = q) || f x q) rfl fun x hx => orV_bl (eq_nn rfl rfl) fun _ => ix_mat rfl rfl rfl hx hq'))]
        exact e3
      have a1 : ∀ (b : MT), ifS (andT (tstM (opM gtF (varM 5) (cM (.int 0)))) (tstM (opM eqF (callM f_law_take [] (consA (varM 0) (consA (cM (.int 2)) nilA))) (cM (.int 0))))) _ b (gS n many w q f (some i) (fun _ => false) (fun _ => false) none) (S1 ++ (os ++ [.lst (ws ++ [.str ""])])) = _ := fun b => (ifS_t x0).trans st
      rw [wip_seq (a1 _), wip_nx (g_fin (by omega))]
      rfl
    · rw [decide_eq_false cd] at x0
      obtain ⟨S3, u3, e3, hu3, h3⟩ := g_loop2 (S := S2) (os := os ++ [.lst (ws ++ [.str "up"])]) (many := many) (w := w) (t4 := some i) (u := fun _ => false) (v := fun x => decide (x = q) || f q x) h2 (by omega) o hq' ⟨(fun y hy => nomatch hy), (fun x y _ hx => nomatch hx)⟩
      refine ⟨S3, _, .str "up", ?_, UV.ord o (hu3.uv o), h3⟩
      have st : seqS (subS (cM (.str "up")) (varM 3) (unM negF (cM (.int 1)))) (seqS (setS 8 (flsM (lcM (rng1 (consA (varM 5) nilA)) [9] (one 9) yesT (orV (opM eqF (varM 9) (varM 6)) (opM ixF (opM ixF (varM 1) (varM 6)) (varM 9))))))
          (preW [10] (forM (rng1 (consA (varM 5) nilA)) (one 10) b2_law_grown))) (gS n many w q f (some i) (fun _ => false) (fun _ => false) none) (S2 ++ (os ++ [.lst (ws ++ [.str ""])])) = some (.nx (gS n many w q f (some i) u3 (fun x => decide (x = q) || f q x) none) (S3 ++ (os ++ [.lst (ws ++ [.str "up"])]))) := by
        rw [seq_nx (set_last h2 hw), seq_nx (setS_ok (rowL (n := n) (i := 9) (by omega) (fun x => decide (x = q) || f q x) rfl fun x hx => orV_bl (eq_nn rfl rfl) fun _ => ix_mat rfl rfl rfl hq' hx))]
        exact e3
      have a1 : ∀ (b : MT), ifS (andT (tstM (opM gtF (varM 5) (cM (.int 0)))) (tstM (opM eqF (callM f_law_take [] (consA (varM 0) (consA (cM (.int 2)) nilA))) (cM (.int 0))))) b (ifS (tstM (opM gtF (varM 5) (cM (.int 0)))) _ nilS) (gS n many w q f (some i) (fun _ => false) (fun _ => false) none) (S1 ++ (os ++ [.lst (ws ++ [.str ""])])) = _ := fun b => (ifS_f x0).trans ((ifS_t g).trans st)
      rw [wip_seq (a1 _), wip_nx (g_fin (by omega))]
      rfl
theorem grown {S os : MH} {n many w : Nat} {f : Nat → Nat → Bool} (hS : St S) (hn : n + many ≤ 64) (hm : many ≤ 50) (o : SOrd n f) (hw : w = 1 + os.length) :
    ∃ (S' : MH) (f' : Nat → Nat → Bool) (ws : List MV), f_law_grown [.ref 0, matV n n f, nV many, .ref w] (S ++ (os ++ [.lst []])) = ok (matV (n + many) (n + many) f') (S' ++ (os ++ [.lst ws])) ∧ SOrd (n + many) f' ∧ St S' := by
  obtain ⟨⟨S2, f2, ws⟩, e, h2, o2, hl⟩ := for_n (bd := turnM (one 4) b3_law_grown) (n := many) (fun s : MH × (Nat → Nat → Bool) × List MV => gS0 (n + s.2.2.length) many w s.2.1 none) (fun s => s.1 ++ (os ++ [.lst s.2.2])) (fun i s => St s.1 ∧ SOrd (n + i) s.2.1 ∧ s.2.2.length = i) (a0 := (S, f, [])) ⟨hS, o, rfl⟩ fun i s hi ⟨q1, q2, q3⟩ => by
    obtain ⟨S3, f3, z, e3, o3, h3⟩ := g_turn (many := many) (os := os) (ws := s.2.2) (f := s.2.1) (n := n + s.2.2.length) (w := w) (nV i) q1 (by omega) (by rw [q3]; exact q2) hw (by omega)
    refine ⟨(S3, f3, s.2.2 ++ [z]), .inl ?_, h3, by rw [q3] at o3; exact o3, by simp [q3]⟩
    rw [e3]
    simp [Nat.add_assoc]
  dsimp only at e h2 o2 hl
  refine ⟨S2, f2, ws, defM_ret rfl ?_, o2, h2⟩
  show m_law_grown (gS0 n many w f none) _ = _
  unfold m_law_grown
  have lp : preW [4, 5, 6, 7, 8, 10] (forM (rng1 (consA (varM 2) nilA)) (one 4) b3_law_grown) (gS0 n many w f none) (S ++ (os ++ [.lst []])) = some (.nx (gS0 (n + many) many w f2 none) (S2 ++ (os ++ [.lst ws]))) := by
    show forM _ _ _ (gS0 n many w f none) _ = _
    unfold forM
    rw [rg_n (n := many) (by omega) rfl, bndS_ok]
    rw [run_0, hl] at e
    exact e
  rw [seq_nx lp]
  rfl
end Mi.k18
set_option maxHeartbeats 4000000
namespace Mi.k18
open PySem L2
/-- numbered anew -/
def renF (n : Nat) (f : Nat → Nat → Bool) (L : List Nat) : Nat → Nat → Bool := fun i j => decide (i < n) && (decide (j < n) && f (L.getD i 0) (L.getD j 0))
theorem renF_iff {n : Nat} {f : Nat → Nat → Bool} {L : List Nat} {i j : Nat} : renF n f L i j = true ↔ i < n ∧ j < n ∧ f (L.getD i 0) (L.getD j 0) = true := by
  unfold renF
  simp
theorem ren_ord {n : Nat} {f : Nat → Nat → Bool} {L : List Nat} (o : SOrd n f) : SOrd n (renF n f L) := by
  obtain ⟨ρ, hr⟩ := o.rk
  exact ⟨⟨fun i => ρ (L.getD i 0), fun x y e => hr _ _ (renF_iff.mp e).2.2⟩, fun x y e => ⟨(renF_iff.mp e).1, (renF_iff.mp e).2.1⟩, fun x y z e1 e2 => renF_iff.mpr ⟨(renF_iff.mp e1).1, (renF_iff.mp e2).2.1, o.tr _ _ _ (renF_iff.mp e1).2.2 (renF_iff.mp e2).2.2⟩⟩
theorem ren_g {n : Nat} {f : Nat → Nat → Bool} {L : List Nat} {s : MS} {h : MH} {R M : ME} {i j : Nat} (hL : L.Perm (List.range n)) (hn : n ≤ 64) (er : R s h = ok (.fls (L.map nV)) h) (er2 : ∀ x, R ((wipeM s [i]).set i (some (nV x))) h = ok (.fls (L.map nV)) h)
    (em : ∀ x y, M ((wipeM ((wipeM s [i]).set i (some (nV x))) [j]).set j (some (nV y))) h = ok (matV n n f) h)
    (ex : ∀ x y, varM i ((wipeM ((wipeM s [i]).set i (some (nV x))) [j]).set j (some (nV y))) h = ok (nV x) h)
    (ey : ∀ x y, varM j ((wipeM ((wipeM s [i]).set i (some (nV x))) [j]).set j (some (nV y))) h = ok (nV y) h) :
    flsM (lcM (seqI R) [i] (one i) yesT (flsM (lcM (seqI R) [j] (one j) yesT (opM ixF (opM ixF M (varM i)) (varM j))))) s h = ok (matV n n (renF n f L)) h := by
  have ll : L.length = n := by
    have := hL.length_eq
    rwa [List.length_range] at this
  have lt : ∀ x ∈ L, x < n := fun x hx => List.mem_range.mp (hL.mem_iff.mp hx)
  have em2 : matV n n (renF n f L) = .fls (L.map fun x => .fls (L.map fun y => .bl (f x y))) := by
    show MV.fls (tb n fun x => .fls (tb n fun y => .bl (renF n f L x y))) = _
    rw [map_tb, ll]
    congr 1
    refine tb_congr fun x hx => ?_
    rw [map_tb, ll]
    congr 1
    refine tb_congr fun y hy => ?_
    unfold renF
    simp [hx, hy]
  rw [em2]
  refine r_fls (l_y (f := nV) (its := L) (fun x => .fls (L.map fun y => .bl (f x y))) (q_fls er) (by omega) fun x hx => r_fls (l_y (f := nV) (its := L) (fun y => .bl (f x y)) (q_fls (er2 x)) (by omega) fun y hy => ?_))
  exact ix_mat (em x y) (ex x y) (ey x y) (lt x hx) (lt y hy)
theorem drawn {S os : MH} (hS : St S) : ∃ (n : Nat) (f : Nat → Nat → Bool) (S' : MH), f_law_drawn [.ref 0] (S ++ os) = ok (matV n n f) (S' ++ os) ∧ n ≤ 16 ∧ SOrd n f ∧ St S' := by
  obtain ⟨d, S1, e1, hd, h1⟩ := take (os := os) (m := 5) hS (by omega) (by omega)
  -- the base
  obtain ⟨n, f, S2, e2, hn, o2, h2⟩ : ∃ (n : Nat) (f : Nat → Nat → Bool) (S2 : MH), ifS (tstM (opM eqF (varM 1) (cM (.int 0)))) (setS 2 (callM f_law_ring [] (consA (opM addF (cM (.int 2)) (callM f_law_take [] (consA (varM 0) (consA (cM (.int 4)) nilA)))) nilA))) (ifS (tstM (opM eqF (varM 1) (cM (.int 1)))) (setS 2 (callM f_law_levels [] (consA (varM 0) nilA))) (setS 2 (callM f_law_any [] (consA (varM 0) (consA (callM f_law_take [] (consA (varM 0) (consA (cM (.int 10)) nilA))) nilA))))) [some (.ref 0), some (nV d), none, none, none, none] (S1 ++ os) = some (.nx [some (.ref 0), some (nV d), some (matV n n f), none, none, none] (S2 ++ os)) ∧ n ≤ 12 ∧ SOrd n f ∧ St S2 := by
    have t0 : ∀ c : Nat, tstM (opM eqF (varM 1) (cM (nV c))) [some (.ref 0), some (nV d), none, none, none, none] (S1 ++ os) = ok (decide (d = c)) (S1 ++ os) := fun c => r_tst (r_eq rfl rfl)
    by_cases c0 : d = 0
    · obtain ⟨k, S2, e2, hk, h2⟩ := take (os := os) (m := 4) h1 (by omega) (by omega)
      obtain ⟨f, e3, o3⟩ := ring (k := 2 + k) (h := S2 ++ os) (by omega)
      refine ⟨2 * (2 + k), f, S2, ?_, by omega, o3, h2⟩
      have t := t0 0
      rw [decide_eq_true c0] at t
      exact (ifS_t t).trans (setS_ok (callM_ok (consA_ok (r_add (i := 2) rfl (callM_ok (consA_ok rfl (consA_ok rfl r_nil)) e2)) r_nil) e3))
    · have u := t0 0
      rw [decide_eq_false c0] at u
      by_cases c1 : d = 1
      · obtain ⟨n, f, S2, e2, hn, o2, h2⟩ := levels (os := os) h1
        refine ⟨n, f, S2, ?_, hn, o2, h2⟩
        have t := t0 1
        rw [decide_eq_true c1] at t
        exact (ifS_f u).trans ((ifS_t t).trans (setS_ok (callM_ok (consA_ok rfl r_nil) e2)))
      · obtain ⟨n, S2, e2, hn, h2⟩ := take (os := os) (m := 10) h1 (by omega) (by omega)
        obtain ⟨f, S3, e3, o3, h3⟩ := any (os := os) (n := n) h2 (by omega)
        refine ⟨n, f, S3, ?_, by omega, o3, h3⟩
        have t := t0 1
        rw [decide_eq_false c1] at t
        exact (ifS_f u).trans ((ifS_f t).trans (setS_ok (callM_ok (consA_ok rfl (consA_ok (callM_ok (consA_ok rfl (consA_ok rfl r_nil)) e2) r_nil)) e3)))
  -- points put in
  obtain ⟨n4, f4, S4, ks, e4, hn4, o4, h4⟩ : ∃ (n4 : Nat) (f4 : Nat → Nat → Bool) (S4 ks : MH), ifS (tstM (opM eqF (callM f_law_take [] (consA (varM 0) (consA (cM (.int 2)) nilA))) (cM (.int 0)))) (setS 2 (callM f_law_grown [] (consA (varM 0) (consA (varM 2) (consA (opM addF (cM (.int 1)) (callM f_law_take [] (consA (varM 0) (consA (cM (.int 4)) nilA)))) (consA (refM (lstM nilA)) nilA)))))) nilS [some (.ref 0), some (nV d), some (matV n n f), none, none, none] (S2 ++ os) = some (.nx [some (.ref 0), some (nV d), some (matV n4 n4 f4), none, none, none] (S4 ++ (os ++ ks))) ∧ n4 ≤ 16 ∧ SOrd n4 f4 ∧ St S4 := by
    obtain ⟨k, S3, e3, hk, h3⟩ := take (os := os) (m := 2) h2 (by omega) (by omega)
    have t := tk0 (s := [some (.ref 0), some (nV d), some (matV n n f), none, none, none]) e3 rfl
    by_cases c : k = 0
    · rw [decide_eq_true c] at t
      obtain ⟨m, S4, e4, hm, h4⟩ := take (os := os) (m := 4) h3 (by omega) (by omega)
      obtain ⟨S5, f5, ws, e5, o5, h5⟩ := grown (os := os) (n := n) (many := 1 + m) (w := 1 + os.length) h4 (by omega) (by omega) o2 rfl
      refine ⟨n + (1 + m), f5, S5, [.lst ws], ?_, by omega, o5, h5⟩
      have er : refM (lstM nilA) [some (.ref 0), some (nV d), some (matV n n f), none, none, none] (S4 ++ os) = ok (.ref (1 + os.length)) (S4 ++ (os ++ [.lst []])) := by
        rw [r_ref (r_lst r_nil (by simp)), List.length_append, h4.len, List.append_assoc]
      exact (ifS_t t).trans (setS_ok (callM_ok (consA_ok rfl (consA_ok rfl (consA_ok (r_add (i := 1) rfl (callM_ok (consA_ok rfl (consA_ok rfl r_nil)) e4)) (consA_ok er r_nil)))) e5))
    · rw [decide_eq_false c] at t
      refine ⟨n, f, S3, [], ?_, by omega, o2, h3⟩
      rw [List.append_nil]
      exact t_if_nil t
  obtain ⟨L, S5, e5, hL, h5⟩ := mingled (os := os ++ ks) (n := n4) h4 (by omega)
  refine ⟨n4, renF n4 f4 L, S5, cut_s (ks := ks) (defM_ret rfl ?_) (by rw [h5.len, hS.len]) h5.self clo_mat, hn4, ren_ord o4, h5⟩
  show m_law_drawn [some (.ref 0), none, none, none, none, none] (S ++ os) = _
  unfold m_law_drawn
  refine (seq_nx (setS_ok (callM_ok (consA_ok rfl (consA_ok rfl r_nil)) e1))).trans ?_
  refine (seq_nx e2).trans ((seq_nx e4).trans ((seq_nx (setS_ok (callM_ok (consA_ok rfl (consA_ok (len_mat rfl) r_nil)) e5))).trans ?_))
  exact retS_ok (ren_g hL (by omega) rfl (fun _ => rfl) (fun _ _ => rfl) (fun _ _ => rfl) fun _ _ => rfl)
def oS (n k : Nat) (f : Nat → Nat → Bool) : MS := [some (matV n n f), some (.fls (((List.range k).flatMap fun x => (fib n (f x)).map fun y => (x, y)).map prV)), none, none]
theorem order {n : Nat} {f : Nat → Nat → Bool} {h : MH} (hn : n ≤ 64) : f_law_order [matV n n f] h = ok (ordV n (prs n f)) h := by
  obtain ⟨k, e, hk⟩ := for_n (bd := turnM (one 2) b1_law_order) (n := n) (fun k : Nat => oS n k f) (fun _ => h) (fun i k => k = i) (a0 := 0) rfl fun i k hi hk => by
    subst hk
    refine ⟨k + 1, .inl ?_, rfl⟩
    show b1_law_order [some (matV n n f), some (.fls (((List.range k).flatMap fun x => (fib n (f x)).map fun y => (x, y)).map prV)), some (nV k), none] h = _
    unfold b1_law_order
    have el := l_p (mi := rng1 (consA (bltM lenF (consA (varM 0) nilA)) nilA)) (vs := [3]) (j := 3) (f := nV) (its := List.range n) (cd := truM (opM ixF (opM ixF (varM 0) (varM 2)) (varM 3))) (el := tupM (consA (varM 2) (consA (varM 3) nilA))) (s := [some (matV n n f), some (.fls (((List.range k).flatMap fun x => (fib n (f x)).map fun y => (x, y)).map prV)), some (nV k), none]) (h := h) (f k) (fun y => prV (k, y)) (q_rng (len_mat rfl) (by omega)) (by rw [List.length_range]; omega) fun y hy => ⟨r_tru (ix_mat rfl rfl rfl hi (List.mem_range.mp hy)), fun _ => tupM_ok (consA_ok rfl (consA_ok rfl r_nil)) (by simp)⟩
    have l2 := prs_upto (n := n) (k := k) (f := f) (by omega)
    have l3 : (fib n (f k)).length ≤ n := fib_len
    have l4 : k * n ≤ 64 * 64 := Nat.mul_le_mul (by omega) hn
    rw [wip_nx (setS_ok (r_fls (r_cat (xs := ((List.range k).flatMap fun x => (fib n (f x)).map fun y => (x, y)).map prV) rfl (r_fls el) (by
      rw [List.length_map, List.length_map]
      show _ + (fib n (f k)).length ≤ _
      omega))))]
    unfold oS
    rw [List.range_succ, List.flatMap_append, List.map_append]
    simp [fib, Function.comp_def]
  subst hk
  refine defM_ret rfl ?_
  show m_law_order [some (matV k k f), none, none, none] h = _
  unfold m_law_order
  rw [seq_nx (setS_ok (r_fls (r_lst r_nil (by simp))))]
  have lp : preW [2] (forM (rng1 (consA (bltM lenF (consA (varM 0) nilA)) nilA)) (one 2) b1_law_order) [some (matV k k f), some (.fls []), none, none] h = some (.nx (oS k k f) h) := by
    show forM _ _ _ [some (matV k k f), some (.fls []), none, none] h = _
    rw [t_for (q_rng (len_mat (n := k) (f := f) rfl) (by omega))]
    rw [run_0] at e
    exact e
  refine (seq_nx lp).trans (retS_ok ?_)
  exact tupM_ok (consA_ok (len_mat rfl) (consA_ok (r_tupf rfl) r_nil)) (by simp)
end Mi.k18
set_option maxHeartbeats 4000000
namespace Mi.k18
open PySem L2
/-! ### _law_same -/
/-- plain values, so deep -/
def plB : Nat → MV → Bool
  | _, .int _ => true
  | _, .bl _ => true
  | _, .str _ => true
  | _, .non => true
  | k + 1, .tup xs => xs.all (plB k) && decide (xs.length ≤ 500000)
  | k + 1, .fls xs => xs.all (plB k) && decide (xs.length ≤ 500000)
  | _, _ => false
theorem same_refl : ∀ (k : Nat) (v : MV) (h : MH), plB k v = true → fr_law_same (k + 1) [v, v] h = ok (.bl true) h := by
  intro k
  induction k with
  | zero =>
    intro v h e
    cases v <;> first | (cases e; done) | simp [fr_law_same, m_law_same, eqB, Ty.le]
  | succ k ih =>
    intro v h e
    have lp : ∀ (xs : List MV) (a : MV), xs.all (plB k) = true → xs.length ≤ 500000 → (∀ (i : Nat) (x : MV), xs[i]? = some x → ixF a (.int (i : Int)) h = ok x h) → forS (turnM (one 2) (b1_law_same (fr_law_same (k + 1)))) (runOf 0 xs.length) [some a, some a, none] h = some (.nx [some a, some a, none] h) := by
      intro xs a hx hl hi
      obtain ⟨w, e2, _⟩ := for_n (bd := turnM (one 2) (b1_law_same (fr_law_same (k + 1)))) (n := xs.length) (fun _ : Unit => [some a, some a, none]) (fun _ => h) (fun _ _ => True) (a0 := ()) trivial fun i _ hi' _ => by
        obtain ⟨x, ex⟩ : ∃ x, xs[i]? = some x := ⟨_, List.getElem?_eq_getElem hi'⟩
        have e3 := ih x h (List.all_eq_true.mp hx x (List.mem_of_getElem? ex))
        have e4 := hi i x ex
        refine ⟨(), .inl ?_, trivial⟩
        have c : callM (fr_law_same (k + 1)) [] (consA (opM ixF (varM 0) (varM 2)) (consA (opM ixF (varM 1) (varM 2)) nilA)) [some a, some a, some (nV i)] h = ok (.bl true) h := by
          simp only [callM, consA, opM, varM, slot, may, bnd_ok, e4, nilA, List.append_nil, e3]
          rfl
        show b1_law_same (fr_law_same (k + 1)) [some a, some a, some (nV i)] h = _
        unfold b1_law_same wipT ifS notT truM
        rw [c]
        rfl
      exact e2
    cases v with
    | int i => simp [fr_law_same, m_law_same, eqB, Ty.le]
    | bl i => simp [fr_law_same, m_law_same, eqB, Ty.le]
    | str i => simp [fr_law_same, m_law_same, eqB, Ty.le]
    | non => simp [fr_law_same, m_law_same, eqB, Ty.le]
    | tup xs =>
      have e' : (xs.all (plB k) && decide (xs.length ≤ 500000)) = true := e
      rw [Bool.and_eq_true, decide_eq_true_iff] at e'
      have l := lp xs (.tup xs) e'.1 e'.2 fun i x ex => by
        have : atI xs (i : Int) = some x := by rw [atI_n, ex]
        simp [this]
      have q1 : (xs.length : Int) ≤ 1000000 := by omega
      have q2 : (-1000000 : Int) ≤ xs.length := by omega
      show defM 2 3 (m_law_same (fr_law_same (k + 1))) [.tup xs, .tup xs] h = _
      generalize fr_law_same (k + 1) = R at *
      simp [m_law_same, eqB, Ty.le, q1, q2, l]
    | fls xs =>
      have e' : (xs.all (plB k) && decide (xs.length ≤ 500000)) = true := e
      rw [Bool.and_eq_true, decide_eq_true_iff] at e'
      have l := lp xs (.fls xs) e'.1 e'.2 fun i x ex => by
        have : atI xs (i : Int) = some x := by rw [atI_n, ex]
        simp [this]
      have q1 : (xs.length : Int) ≤ 1000000 := by omega
      have q2 : (-1000000 : Int) ≤ xs.length := by omega
      show defM 2 3 (m_law_same (fr_law_same (k + 1))) [.fls xs, .fls xs] h = _
      generalize fr_law_same (k + 1) = R at *
      simp [m_law_same, eqB, Ty.le, q1, q2, l]
    | ktp xs => cases e
    | frz xs => cases e
    | ref l => cases e
    | exc a d f xs => cases e
theorem same {v : MV} {h : MH} (e : plB 5 v = true) : f_law_same [v, v] h = ok (.bl true) h := same_refl 5 v h e
end Mi.k18
set_option maxHeartbeats 4000000
namespace Mi.k18
open PySem L2
/-! what the law strikes -/
def kyN (x : Nat) : Key := .inl (x : Int)
theorem kyN_inj {x y : Nat} (h : kyN x = kyN y) : x = y := by
  unfold kyN at h
  have := Sum.inl.inj h
  omega
theorem put_new {kvs : List (Key × MV)} {k : Key} {v : MV} (h : ∀ p ∈ kvs, p.1 ≠ k) : putM kvs k v = kvs ++ [(k, v)] := by
  unfold putM
  rw [if_neg]
  rw [List.any_eq_true]
  rintro ⟨p, hp, e⟩
  exact h p hp (of_decide_eq_true e)
theorem val_map {g : Nat → MV} : ∀ {L : List Nat} {x : Nat}, x ∈ L → valM (L.map fun x => (kyN x, g x)) (kyN x) = some (g x)
  | [], _, h => nomatch h
  | y :: L, x, h => by
    unfold valM
    rw [List.map_cons, List.find?_cons]
    by_cases c : y = x
    · rw [c, decide_eq_true rfl]
      rfl
    · rw [decide_eq_false fun e => c (kyN_inj e)]
      exact val_map (by
        rcases List.mem_cons.mp h with h | h
        · exact (c h.symm).elim
        · exact h)
theorem r_dget {s : MS} {h h1 h2 : MH} {a b : ME} {l x : Nat} {v : MV} {kvs : List (Key × MV)} (e1 : a s h = ok (.ref l) h1) (e2 : b s h1 = ok (nV x) h2) (e0 : h2[l]? = some (.dK kvs)) (e3 : valM kvs (kyN x) = some v) : opM dgetF a b s h = ok v h2 := r_op e1 e2 (by
  show (match h2[l]?, keyOf (nV x) with
    | some (.dK kvs), some k => (match valM kvs k with
      | some v => ok v h2
      | none => none)
    | _, _ => none) = _
  rw [e0]
  show (match valM kvs (kyN x) with
    | some v => ok v h2
    | none => none) = _
  rw [e3])
theorem t_dput {s : MS} {h h1 h2 h3 : MH} {a b d : ME} {l x : Nat} {v : MV} {kvs : List (Key × MV)} (e : a s h = ok v h1) (e1 : b s h1 = ok (.ref l) h2) (e2 : d s h2 = ok (nV x) h3) (e0 : h3[l]? = some (.dK kvs)) (hn : ∀ p ∈ kvs, p.1 ≠ kyN x) (hl : kvs.length ≤ 400000) : dputS a b d s h = some (.nx s (h3.set l (.dK (kvs ++ [(kyN x, v)])))) := by
  unfold dputS
  rw [e, bndS_ok, e1, bndS_ok, e2, bndS_ok]
  show (match h3[l]?, keyOf (nV x) with
    | some (.dK kvs), some k => (if kvs.length < lim then some (OutS.nx s (h3.set l (.dK (putM kvs k v)))) else none)
    | _, _ => none) = _
  rw [e0]
  show (if kvs.length < lim then some (OutS.nx s (h3.set l (.dK (putM kvs (kyN x) v)))) else none) = _
  rw [if_pos (by unfold lim; omega), put_new hn]
/-- how many left ones are g-below x -/
def cL (L : List Nat) (g : Nat → Nat → Bool) (x : Nat) : Nat := (L.filter fun y => g y x).length
def dL (L : List Nat) (g : Nat → Nat → Bool) : List (Key × MV) := L.map fun x => (kyN x, nV (cL L g x))
/-- the partners -/
def pL (L : List Nat) (g : Nat → Nat → Bool) (x : Nat) : List Nat := L.filter fun y => g y x && decide (cL L g y + 1 = cL L g x)
def flp (f : Nat → Nat → Bool) : Nat → Nat → Bool := fun x y => f y x
def skV (q : Nat × Str × Nat) : MV := .tup [nV q.1, .str q.2.1, nV q.2.2]
def skL (L : List Nat) (f : Nat → Nat → Bool) (Z : List Nat) : List (Nat × Str × Nat) := Z.flatMap fun x => ((pL L f x).map fun y => (x, ("down" : Str), y)) ++ ((pL L (flp f) x).map fun y => (x, ("up" : Str), y))
def dS (n p : Nat) (f : Nat → Nat → Bool) (L : List Nat) (x : Option MV) (w : Option MV) : MS := [some (matV n n f), some (.fls (L.map nV)), some (.ref p), some (.ref (p + 1)), x, none, w]
section
variable {n p : Nat} {f : Nat → Nat → Bool} {L : List Nat} {h : MH}
theorem cL_le {g : Nat → Nat → Bool} {x : Nat} : cL L g x ≤ L.length := List.length_filter_le ..
theorem lows (hp : h.length = p) (hL : ∀ x ∈ L, x < n) (hd : L.Nodup) (hl : L.length ≤ 64) :
    preW [4] (forM (seqI (varM 1)) (one 4) b1_law_strikes) (dS n p f L none none) (h ++ [.dK [], .dK []]) = some (.nx (dS n p f L none none) (h ++ [.dK (dL L f), .dK (dL L (flp f))])) := by
  obtain ⟨k, e, hk⟩ := for_m (f := nV) (bd := turnM (one 4) b1_law_strikes) (xs := L) (fun _ : Nat => dS n p f L none none) (fun k => h ++ [.dK ((L.take k).map fun x => (kyN x, nV (cL L f x))), .dK ((L.take k).map fun x => (kyN x, nV (cL L (flp f) x)))]) (fun i k => k = i) (a0 := 0) rfl fun i x k hx hk => by
    subst hk
    refine ⟨k + 1, .inl ?_, rfl⟩
    have hxL := List.mem_of_getElem? hx
    have hx' := hL x hxL
    have tk : L.take (k + 1) = L.take k ++ [x] := by rw [List.take_add_one, hx]; rfl
    rw [tk, List.map_append, List.map_append]
    have nin : ∀ (g : Nat → MV) (q : Key × MV), q ∈ ((L.take k).map fun x => (kyN x, g x)) → q.1 ≠ kyN x := fun g q hq e => by
      obtain ⟨y, hy, ey⟩ := List.mem_map.mp hq
      rw [← ey] at e
      have := kyN_inj e
      subst this
      obtain ⟨hk, ex⟩ := List.getElem?_eq_some_iff.mp hx
      obtain ⟨j, hj, ej⟩ := List.mem_iff_getElem.mp hy
      rw [List.length_take] at hj
      rw [List.getElem_take] at ej
      have := nd_at hd (List.getElem?_eq_some_iff.mpr ⟨by omega, ej⟩) hx
      omega
    have lk : ∀ (g : Nat → MV), ((L.take k).map fun x => (kyN x, g x)).length ≤ 400000 := fun g => by
      rw [List.length_map, List.length_take]
      omega
    show b1_law_strikes ((dS n p f L none none).set 4 (some (nV x))) _ = _
    unfold b1_law_strikes
    generalize hA : ((L.take k).map fun x => (kyN x, nV (cL L f x))) = A at *
    generalize hB : ((L.take k).map fun x => (kyN x, nV (cL L (flp f) x))) = B at *
    have c1 : ∀ {H : MH}, bltM lenF (consA (flsM (lcM (seqI (varM 1)) [5] (one 5) (truM (opM ixF (opM ixF (varM 0) (varM 5)) (varM 4))) (varM 5))) nilA) ((dS n p f L none none).set 4 (some (nV x))) H = ok (nV (cL L f x)) H := fun {H} => by
      have := r_len (r_fls (l_p (mi := seqI (varM 1)) (vs := [5]) (j := 5) (f := nV) (its := L) (cd := truM (opM ixF (opM ixF (varM 0) (varM 5)) (varM 4))) (el := varM 5) (s := (dS n p f L none none).set 4 (some (nV x))) (h := H) (fun y => f y x) nV (q_fls rfl) (by omega) fun y hy => ⟨r_tru (ix_mat rfl rfl rfl (hL y hy) hx'), fun _ => rfl⟩))
      rw [List.length_map] at this
      exact this
    have c2 : ∀ {H : MH}, bltM lenF (consA (flsM (lcM (seqI (varM 1)) [5] (one 5) (truM (opM ixF (opM ixF (varM 0) (varM 4)) (varM 5))) (varM 5))) nilA) ((dS n p f L none none).set 4 (some (nV x))) H = ok (nV (cL L (flp f) x)) H := fun {H} => by
      have := r_len (r_fls (l_p (mi := seqI (varM 1)) (vs := [5]) (j := 5) (f := nV) (its := L) (cd := truM (opM ixF (opM ixF (varM 0) (varM 4)) (varM 5))) (el := varM 5) (s := (dS n p f L none none).set 4 (some (nV x))) (h := H) (fun y => flp f y x) nV (q_fls rfl) (by omega) fun y hy => ⟨r_tru (ix_mat (f := f) rfl rfl rfl hx' (hL y hy)), fun _ => rfl⟩))
      rw [List.length_map] at this
      exact this
    have s1 := t_dput (l := p) (x := x) (s := (dS n p f L none none).set 4 (some (nV x))) (c1 (H := h ++ [.dK A, .dK B])) (b := varM 2) rfl (d := varM 4) rfl (by rw [ga0 hp]; rfl) (by rw [← hA]; exact nin _) (by rw [← hA]; exact lk _)
    rw [sa0 hp] at s1
    have s2 := t_dput (l := p + 1) (x := x) (s := (dS n p f L none none).set 4 (some (nV x))) (c2 (H := h ++ [.dK (A ++ [(kyN x, nV (cL L f x))]), .dK B])) (b := varM 3) rfl (d := varM 4) rfl (by rw [ga hp]; rfl) (by rw [← hB]; exact nin _) (by rw [← hB]; exact lk _)
    rw [sa hp] at s2
    exact wip_nx ((seq_nx s1).trans s2)
  subst hk
  show forM _ _ _ (dS n p f L none none) _ = _
  rw [t_for (q_fls (xs := L.map nV) rfl)]
  simpa [dL] using e
theorem pL_one {g : Nat → Nat → Bool} {x : Nat} (o : ∀ x y z, g x y = true → g y z = true → g x z = true) (irr : ∀ x, g x x = false) : (pL L g x).length ≤ L.length := List.length_filter_le ..
theorem strikes (hL : ∀ x ∈ L, x < n) (hd : L.Nodup) (hl : L.length ≤ 64) : f_law_strikes [matV n n f, .fls (L.map nV)] h = ok (.fls ((skL L f L).map skV)) h := by
  obtain ⟨p, hp⟩ : ∃ p, h.length = p := ⟨_, rfl⟩
  have b1 : ∀ {g : Nat → Nat → Bool} {x : Nat}, (pL L g x).length ≤ 64 := fun {g x} => Nat.le_trans (List.length_filter_le ..) hl
  have bl : ∀ Z : List Nat, (skL L f Z).length ≤ 128 * Z.length := fun Z => by
    induction Z with
    | nil => exact Nat.le_refl _
    | cons x Z ih =>
      unfold skL at ih ⊢
      rw [List.flatMap_cons, List.length_append, List.length_append, List.length_map, List.length_map, List.length_cons]
      have := b1 (g := f) (x := x)
      have := b1 (g := flp f) (x := x)
      omega
  obtain ⟨k, e, hk⟩ := for_m (f := nV) (bd := turnM (one 4) b2_law_strikes) (xs := L) (fun k : Nat => dS n p f L none (some (.fls ((skL L f (L.take k)).map skV)))) (fun _ => h ++ [.dK (dL L f), .dK (dL L (flp f))]) (fun i k => k = i) (a0 := 0) rfl fun i x k hx hk => by
    subst hk
    refine ⟨k + 1, .inl ?_, rfl⟩
    have hxL := List.mem_of_getElem? hx
    have hx' := hL x hxL
    have tk : skL L f (L.take (k + 1)) = skL L f (L.take k) ++ (((pL L f x).map fun y => (x, ("down" : Str), y)) ++ ((pL L (flp f) x).map fun y => (x, ("up" : Str), y))) := by
      rw [List.take_add_one, hx]
      unfold skL
      rw [List.flatMap_append]
      simp
    rw [tk, List.map_append, List.map_append]
    have lk := bl (L.take k)
    rw [List.length_take] at lk
    have lk2 : (skL L f (L.take k)).length ≤ 128 * 64 := Nat.le_trans lk (by omega)
    show b2_law_strikes ((dS n p f L none (some (.fls ((skL L f (L.take k)).map skV)))).set 4 (some (nV x))) _ = _
    unfold b2_law_strikes
    generalize hW : (skL L f (L.take k)).map skV = W
    have lw : W.length ≤ 128 * 64 := by rw [← hW, List.length_map]; exact lk2
    have dget : ∀ {s : MS} {a b : ME} {g : Nat → Nat → Bool} {l y : Nat}, (h ++ [MO.dK (dL L f), .dK (dL L (flp f))])[l]? = some (.dK (dL L g)) → a s (h ++ [MO.dK (dL L f), .dK (dL L (flp f))]) = ok (.ref l) (h ++ [MO.dK (dL L f), .dK (dL L (flp f))]) → b s (h ++ [MO.dK (dL L f), .dK (dL L (flp f))]) = ok (nV y) (h ++ [MO.dK (dL L f), .dK (dL L (flp f))]) → y ∈ L → opM dgetF a b s (h ++ [MO.dK (dL L f), .dK (dL L (flp f))]) = ok (nV (cL L g y)) (h ++ [MO.dK (dL L f), .dK (dL L (flp f))]) := fun h0 ea eb hy => r_dget ea eb h0 (val_map hy)
    have l1 : (h ++ [MO.dK (dL L f), .dK (dL L (flp f))])[p]? = some (.dK (dL L f)) := by rw [ga0 hp]; rfl
    have l2 : (h ++ [MO.dK (dL L f), .dK (dL L (flp f))])[p + 1]? = some (.dK (dL L (flp f))) := by rw [ga hp]; rfl
    have eqd : ∀ {s : MS} {a b : ME} {u v : Nat} {H : MH}, a s H = ok (nV u) H → b s H = ok (nV v) H → tstM (opM eqF a (opM subF b (cM (.int 1)))) s H = ok (decide (u + 1 = v)) H := fun {s a b u v H} e1 e2 => r_tst (r_op e1 (r_op e2 rfl rfl) (by
      show ok (MV.bl (decide ((u : Int) = (v : Int) - 1))) H = _
      congr 2
      rw [decide_eq_decide]
      omega))
    have d1 := r_fls (l_p (mi := seqI (varM 1)) (vs := [5]) (j := 5) (f := nV) (its := L) (cd := andT (truM (opM ixF (opM ixF (varM 0) (varM 5)) (varM 4))) (tstM (opM eqF (opM dgetF (varM 2) (varM 5)) (opM subF (opM dgetF (varM 2) (varM 4)) (cM (.int 1)))))) (el := tupM (consA (varM 4) (consA (cM (.str "down")) (consA (varM 5) nilA)))) (s := (dS n p f L none (some (.fls W))).set 4 (some (nV x))) (h := h ++ [.dK (dL L f), .dK (dL L (flp f))]) (fun y => f y x && decide (cL L f y + 1 = cL L f x)) (fun y => skV (x, "down", y)) (q_fls rfl) (by omega) fun y hy => ⟨r_and (r_tru (ix_mat rfl rfl rfl (hL y hy) hx')) fun _ => eqd (dget l1 rfl rfl hy) (dget l1 rfl rfl hxL), fun _ => tupM_ok (consA_ok rfl (consA_ok rfl (consA_ok rfl r_nil))) (by simp)⟩)
    have s1 := setS_ok (i := 6) (r_fls (r_cat (a := varM 6) (xs := W) (s := (dS n p f L none (some (.fls W))).set 4 (some (nV x))) (h := h ++ [.dK (dL L f), .dK (dL L (flp f))]) rfl d1 (by
      rw [List.length_map]
      have := b1 (g := f) (x := x)
      unfold pL at this
      omega)))
    have d2 := r_fls (l_p (mi := seqI (varM 1)) (vs := [5]) (j := 5) (f := nV) (its := L) (cd := andT (truM (opM ixF (opM ixF (varM 0) (varM 4)) (varM 5))) (tstM (opM eqF (opM dgetF (varM 3) (varM 5)) (opM subF (opM dgetF (varM 3) (varM 4)) (cM (.int 1)))))) (el := tupM (consA (varM 4) (consA (cM (.str "up")) (consA (varM 5) nilA)))) (s := (dS n p f L none (some (.fls (W ++ ((pL L f x).map fun y => skV (x, "down", y)))))).set 4 (some (nV x))) (h := h ++ [.dK (dL L f), .dK (dL L (flp f))]) (fun y => flp f y x && decide (cL L (flp f) y + 1 = cL L (flp f) x)) (fun y => skV (x, "up", y)) (q_fls rfl) (by omega) fun y hy => ⟨r_and (r_tru (ix_mat (f := f) rfl rfl rfl hx' (hL y hy))) fun _ => eqd (dget l2 rfl rfl hy) (dget l2 rfl rfl hxL), fun _ => tupM_ok (consA_ok rfl (consA_ok rfl (consA_ok rfl r_nil))) (by simp)⟩)
    have s2 := setS_ok (i := 6) (r_fls (r_cat (a := varM 6) (xs := W ++ ((pL L f x).map fun y => skV (x, "down", y))) (s := (dS n p f L none (some (.fls (W ++ ((pL L f x).map fun y => skV (x, "down", y)))))).set 4 (some (nV x))) (h := h ++ [.dK (dL L f), .dK (dL L (flp f))]) rfl d2 (by
      rw [List.length_map, List.length_append, List.length_map]
      have := b1 (g := f) (x := x)
      have := b1 (g := flp f) (x := x)
      unfold pL at *
      omega)))
    refine (wip_nx ((seq_nx s1).trans s2)).trans ?_
    rw [List.map_map, List.map_map, ← List.append_assoc]
    rfl
  subst hk
  refine cut_p (os := [.dK (dL L f), .dK (dL L (flp f))]) (defM_ret rfl ?_) (cloL_map fun _ => rfl)
  show m_law_strikes [some (matV n n f), some (.fls (L.map nV)), none, none, none, none, none] h = _
  unfold m_law_strikes
  have n1 : setS 2 dnewM [some (matV n n f), some (.fls (L.map nV)), none, none, none, none, none] h = some (.nx [some (matV n n f), some (.fls (L.map nV)), some (.ref p), none, none, none, none] (h ++ [.dK []])) := by
    refine (setS_ok (x := .ref h.length) rfl).trans ?_
    rw [hp]
    rfl
  have n2 : setS 3 dnewM [some (matV n n f), some (.fls (L.map nV)), some (.ref p), none, none, none, none] (h ++ [.dK []]) = some (.nx (dS n p f L none none) (h ++ [.dK [], .dK []])) := by
    refine (setS_ok (x := .ref (h ++ [MO.dK []]).length) (h1 := (h ++ [MO.dK []]) ++ [.dK []]) rfl).trans ?_
    rw [List.length_append, hp, List.append_assoc]
    rfl
  refine (seq_nx n1).trans ((seq_nx n2).trans ((seq_nx (lows hp hL hd hl)).trans ((seq_nx (setS_ok (r_fls (r_lst r_nil (by simp))))).trans ?_)))
  have lp : preW [4] (forM (seqI (varM 1)) (one 4) b2_law_strikes) (dS n p f L none (some (.fls []))) (h ++ [.dK (dL L f), .dK (dL L (flp f))]) = some (.nx (dS n p f L none (some (.fls ((skL L f L).map skV)))) (h ++ [.dK (dL L f), .dK (dL L (flp f))])) := by
    show forM _ _ _ (dS n p f L none (some (.fls []))) _ = _
    rw [t_for (q_fls (xs := L.map nV) rfl)]
    simpa [skL] using e
  exact (seq_nx lp).trans (retS_ok rfl)
end
end Mi.k18
set_option maxHeartbeats 4000000
namespace Mi.k18
open PySem L2
open Mi.rem (cnt ptn pS soL s2V ways dir)
theorem flt_add {α : Type} {p q : α → Bool} : ∀ {xs : List α}, (∀ x ∈ xs, p x = true → q x = true) → (xs.filter q).length = (xs.filter p).length + (xs.filter fun x => q x && !p x).length
  | [], _ => rfl
  | x :: xs, h => by
    have ih := flt_add (xs := xs) fun y hy => h y (List.mem_cons_of_mem _ hy)
    have hx := h x (List.mem_cons_self ..)
    rw [List.filter_cons, List.filter_cons, List.filter_cons]
    cases hp : p x with
    | true =>
      rw [hx hp]
      simp [ih]
      omega
    | false =>
      cases hq : q x <;> simp [ih]
      omega
theorem two_mem {α : Type} {a b : α} {M : List α} (ha : a ∈ M) (hb : b ∈ M) (h : a ≠ b) : 2 ≤ M.length := by
  match M, ha, hb with
  | [c], ha, hb =>
    rw [List.mem_singleton.mp ha, List.mem_singleton.mp hb] at h
    exact (h rfl).elim
  | _ :: _ :: _, _, _ => simp
theorem pL_uniq {L : List Nat} {g : Nat → Nat → Bool} (tr : ∀ x y z, g x y = true → g y z = true → g x z = true) (irr : ∀ x, g x x = false) {x a b : Nat} (ha : a ∈ pL L g x) (hb : b ∈ pL L g x) : a = b := by
  have main : ∀ {a b : Nat}, a ∈ pL L g x → b ∈ pL L g x → a ≠ b → g b a = true := fun {a b} ha hb hab => by
    obtain ⟨a1, a2⟩ := List.mem_filter.mp ha
    obtain ⟨b1, b2⟩ := List.mem_filter.mp hb
    rw [Bool.and_eq_true, decide_eq_true_iff] at a2 b2
    cases c : g b a with
    | true => rfl
    | false =>
      have e := flt_add (p := fun y => g y a) (q := fun y => g y x) (xs := L) fun y _ h => tr _ _ _ h a2.1
      have m1 : a ∈ L.filter fun y => g y x && !g y a := List.mem_filter.mpr ⟨a1, by rw [a2.1, irr]; rfl⟩
      have m2 : b ∈ L.filter fun y => g y x && !g y a := List.mem_filter.mpr ⟨b1, by rw [b2.1, c]; rfl⟩
      have := two_mem m1 m2 hab
      have := a2.2
      unfold cL at this
      omega
  by_cases h : a = b
  · exact h
  · have h1 := main ha hb h
    have h2 := main hb ha (Ne.symm h)
    have := tr _ _ _ h1 h2
    rw [irr] at this
    cases this
theorem cnt_cL {n x : Nat} {g : Nat → Nat → Bool} {L : List Nat} (hL : ∀ x ∈ L, x < n) (hd : L.Nodup) : cnt n g (fun x => decide (x ∈ L)) x = cL L g x := by
  unfold cnt cL fib
  refine List.Perm.length_eq ((List.perm_ext_iff_of_nodup (List.Pairwise.filter _ List.nodup_range) (List.Pairwise.filter _ hd)).mpr fun y => ?_)
  rw [List.mem_filter, List.mem_filter, List.mem_range, Bool.and_eq_true, decide_eq_true_iff]
  exact ⟨fun h => ⟨h.2.1, h.2.2⟩, fun h => ⟨hL y h.1, h.1, h.2⟩⟩
theorem ptn_some {n x : Nat} {g : Nat → Nat → Bool} {L : List Nat} (hL : ∀ x ∈ L, x < n) (hd : L.Nodup) : (ptn n g (fun x => decide (x ∈ L)) x).isSome = !(pL L g x).isEmpty := by
  rw [Bool.eq_iff_iff]
  unfold ptn
  rw [List.find?_isSome]
  constructor
  · rintro ⟨y, hy, e⟩
    rw [Bool.and_eq_true, Bool.and_eq_true, decide_eq_true_iff, decide_eq_true_iff, cnt_cL hL hd, cnt_cL hL hd] at e
    have : y ∈ pL L g x := List.mem_filter.mpr ⟨e.1, by rw [e.2.1, decide_eq_true e.2.2]; rfl⟩
    cases h : pL L g x with
    | nil =>
      rw [h] at this
      cases this
    | cons a b => rfl
  · intro h
    cases hp : pL L g x with
    | nil =>
      rw [hp] at h
      cases h
    | cons y r =>
      have : y ∈ pL L g x := by rw [hp]; exact List.mem_cons_self ..
      obtain ⟨a1, a2⟩ := List.mem_filter.mp this
      rw [Bool.and_eq_true, decide_eq_true_iff] at a2
      exact ⟨y, List.mem_range.mpr (hL y a1), by rw [Bool.and_eq_true, Bool.and_eq_true, decide_eq_true_iff, decide_eq_true_iff, cnt_cL hL hd, cnt_cL hL hd]; exact ⟨a1, a2⟩⟩
theorem pL_map {α : Type} {L : List Nat} {g : Nat → Nat → Bool} (hd : L.Nodup) (tr : ∀ x y z, g x y = true → g y z = true → g x z = true) (irr : ∀ x, g x x = false) {x : Nat} {v : α} : (pL L g x).map (fun _ => v) = if (!(pL L g x).isEmpty) = true then [v] else [] := by
  have nd : (pL L g x).Nodup := List.Pairwise.filter _ hd
  have un := fun a b => pL_uniq tr irr (L := L) (x := x) (a := a) (b := b)
  match hp : pL L g x with
  | [] => rfl
  | [a] => rfl
  | a :: b :: r =>
    rw [hp] at nd un
    have := un a b (List.mem_cons_self ..) (List.mem_cons_of_mem _ (List.mem_cons_self ..))
    rw [this] at nd
    exact ((List.nodup_cons.mp nd).1 (List.mem_cons_self ..)).elim
theorem due_eq {n : Nat} {f : Nat → Nat → Bool} {L : List Nat} (o : SOrd n f) (hL : ∀ x ∈ L, x < n) (hd : L.Nodup) : ((skL L f L).map fun q => (q.1, q.2.1)) = soL n f (fun x => decide (x ∈ L)) L := by
  have one : ∀ x ∈ L, (((pL L f x).map fun y => (x, ("down" : Str), y)) ++ ((pL L (flp f) x).map fun y => (x, ("up" : Str), y))).map (fun q => (q.1, q.2.1)) = (ways.filter fun w => (pS n f (fun x => decide (x ∈ L)) (x : Int) w).isSome).map fun w => (x, w) := fun x hx => by
    have hx' := hL x hx
    have e : ∀ w, pS n f (fun x => decide (x ∈ L)) (x : Int) w = ptn n (dir w f) (fun x => decide (x ∈ L)) x := fun w => by
      unfold pS
      rw [if_pos ⟨by omega, by simpa using hx', by simpa using hx⟩]
      rfl
    rw [List.map_append, List.map_map, List.map_map]
    have m1 := pL_map (α := Nat × Str) hd o.tr o.irr (x := x) (v := (x, "down"))
    have m2 := pL_map (α := Nat × Str) hd (g := flp f) (fun a b c h1 h2 => o.tr _ _ _ h2 h1) o.irr (x := x) (v := (x, "up"))
    have e1 : (ptn n (dir "down" f) (fun x => decide (x ∈ L)) x).isSome = !(pL L f x).isEmpty := ptn_some hL hd
    have e2 : (ptn n (dir "up" f) (fun x => decide (x ∈ L)) x).isSome = !(pL L (flp f) x).isEmpty := ptn_some (g := flp f) hL hd
    refine (congr (congrArg _ m1) m2).trans ?_
    unfold ways
    simp only [List.filter_cons, List.filter_nil, e, e1, e2]
    cases (!(pL L f x).isEmpty) <;> cases (!(pL L (flp f) x).isEmpty) <;> rfl
  unfold skL soL
  rw [List.map_flatMap]
  have : ∀ Z : List Nat, (∀ x ∈ Z, x ∈ L) → (Z.flatMap fun x => (((pL L f x).map fun y => (x, ("down" : Str), y)) ++ ((pL L (flp f) x).map fun y => (x, ("up" : Str), y))).map (fun q => (q.1, q.2.1))) = Z.flatMap fun x : Nat => (ways.filter fun w => (pS n f (fun x => decide (x ∈ L)) (x : Int) w).isSome).map fun w => (x, w) := by
    intro Z
    induction Z with
    | nil => intro _; rfl
    | cons x Z ih =>
      intro hz
      rw [List.flatMap_cons, List.flatMap_cons, one x (hz x (List.mem_cons_self ..)), ih fun y hy => hz y (List.mem_cons_of_mem _ hy)]
  exact this L fun _ h => h
section
variable {n : Nat} {f : Nat → Nat → Bool} {L : List Nat} {h : MH}
theorem skL_len {Z : List Nat} (hl : L.length ≤ 64) : (skL L f Z).length ≤ 128 * Z.length := by
  induction Z with
  | nil => exact Nat.le_refl _
  | cons x Z ih =>
    unfold skL at ih ⊢
    rw [List.flatMap_cons, List.length_append, List.length_append, List.length_map, List.length_map, List.length_cons]
    have : (pL L f x).length ≤ L.length := List.length_filter_le ..
    have : (pL L (flp f) x).length ≤ L.length := List.length_filter_le ..
    omega
theorem due (o : SOrd n f) (hL : ∀ x ∈ L, x < n) (hd : L.Nodup) (hl : L.length ≤ 64) : f_law_due [matV n n f, .fls (L.map nV)] h = ok (.tup ((soL n f (fun x => decide (x ∈ L)) L).map s2V)) h := by
  rw [← due_eq o hL hd]
  refine defM_ret rfl ?_
  show m_law_due [some (matV n n f), some (.fls (L.map nV)), none] h = _
  unfold m_law_due
  have lk := skL_len (f := f) (Z := L) hl
  have := r_tupf (r_fls (l_y (mi := seqI (callM f_law_strikes [] (consA (varM 0) (consA (varM 1) nilA)))) (vs := [2]) (j := 2) (f := skV) (its := skL L f L) (el := tupM (consA (opM ixF (varM 2) (cM (.int 0))) (consA (opM ixF (varM 2) (cM (.int 1))) nilA))) (s := [some (matV n n f), some (.fls (L.map nV)), none]) (h := h) (fun q => s2V (q.1, q.2.1)) (q_fls (callM_ok (consA_ok rfl (consA_ok rfl r_nil)) (strikes hL hd hl))) (by omega) fun q hq => tupM_ok (consA_ok (r_ixt (i := 0) rfl rfl rfl) (consA_ok (r_ixt (i := 1) rfl rfl rfl) r_nil)) (by simp)))
  rw [List.map_map]
  exact retS_ok this
def soV (n : Nat) (f : Nat → Nat → Bool) (L : List Nat) : MV := .tup ((soL n f (fun x => decide (x ∈ L)) L).map s2V)
theorem plB_so (hl : L.length ≤ 64) : plB 5 (soV n f L) = true := by
  unfold soV
  show (((soL n f (fun x => decide (x ∈ L)) L).map s2V).all (plB 4) && decide (((soL n f (fun x => decide (x ∈ L)) L).map s2V).length ≤ 500000)) = true
  have := rem.soL_len (n := n) (f := f) (B := fun x => decide (x ∈ L)) (L := L)
  rw [List.length_map, decide_eq_true (by omega), Bool.and_true, List.all_eq_true]
  intro x hx
  obtain ⟨i, _, ei⟩ := List.mem_map.mp hx
  rw [← ei]
  rfl
theorem is_told (hn : n ≤ 64) (o : SOrd n f) (hL : ∀ x ∈ L, x < n) (hd : L.Nodup) (hl : L.length ≤ 64) : f_law_is_told [ordV n (prs n f), matV n n f, .fls (L.map nV)] h = ok (.bl true) h := by
  have e1 : f_strikes_of [ordV n (prs n f), .tup (L.map nV)] h = ok (soV n f L) h := rem.strikes_of hn hL hl
  have e2 : f_law_due [matV n n f, .fls (L.map nV)] h = ok (soV n f L) h := due o hL hd hl
  have e3 : f_law_same [soV n f L, soV n f L] h = ok (.bl true) h := same (plB_so hl)
  generalize soV n f L = V at *
  refine defM_ret rfl ?_
  show m_law_is_told [some (ordV n (prs n f)), some (matV n n f), some (.fls (L.map nV))] h = _
  unfold m_law_is_told
  exact retS_ok (callM_ok (consA_ok (callM_ok (consA_ok rfl (consA_ok (r_tupf rfl) r_nil)) e1) (consA_ok (callM_ok (consA_ok rfl (consA_ok rfl r_nil)) e2) r_nil)) e3)
end
end Mi.k18
set_option maxHeartbeats 4000000
namespace Mi.k18
open PySem L2
theorem so_wide {n m : Nat} {f : Nat → Nat → Bool} (o : SOrd n f) (h : n ≤ m) : SOrd m f := ⟨o.rk, fun x y e => by
  have := o.lt x y e
  omega, o.tr⟩
theorem rowB_app {n d : Nat} {c : Nat → Bool} (h : ∀ y, n ≤ y → c y = false) : rowB n c ++ rowB d (fun _ => false) = rowB (n + d) c := by
  unfold rowB
  rw [tb_add]
  congr 1
  exact tb_congr fun i _ => by rw [h _ (by omega)]
theorem mat_wide {n d : Nat} {f : Nat → Nat → Bool} (o : SOrd n f) : MV.fls (((List.range n).map fun x => MV.fls (rowB n (f x) ++ rowB d fun _ => false)) ++ (List.range d).map fun _ => MV.fls (rowB (n + d) fun _ => false)) = matV (n + d) (n + d) f := by
  have z : ∀ x y, ¬ (x < n ∧ y < n) → f x y = false := fun x y h => by
    cases c : f x y with
    | false => rfl
    | true => exact (h (o.lt x y c)).elim
  show _ = MV.fls (tb (n + d) fun x => MV.fls (rowB (n + d) (f x)))
  rw [tb_add]
  congr 2
  · exact List.map_congr_left fun x _ => by rw [rowB_app fun y hy => z x y (by omega)]
  · exact List.map_congr_left fun x _ => by rw [rowB_congr fun y _ => (z (n + x) y (by omega)).symm]
theorem repF {n : Nat} {a : ME} {s : MS} {h : MH} (hn : n ≤ 1000) (ea : a s h = ok (nV n) h) : flsM (repL (flsM (lstM (consA (cM (.bl false)) nilA))) a) s h = ok (.fls (rowB n fun _ => false)) h := by
  rw [r_fls (r_rep (xs := [.bl false]) (r_fls (r_lst (consA_ok rfl r_nil) (by simp))) ea (by simp; omega) (by omega)), rep_bl]
theorem matV_rows {n : Nat} {f : Nat → Nat → Bool} : matV n n f = .fls ((List.range n).map fun x => .fls (rowB n (f x))) := rfl
theorem apart {S os : MH} {n : Nat} {f : Nat → Nat → Bool} (hS : St S) (hn : n ≤ 16) (o : SOrd n f) : ∃ (m : Nat) (g : Nat → Nat → Bool) (S' : MH), f_law_apart [.ref 0, matV n n f] (S ++ os) = ok (matV m m g) (S' ++ os) ∧ m ≤ 64 ∧ SOrd m g ∧ St S' := by
  obtain ⟨d, S1, e1, hd, h1⟩ := take (os := os) (m := 41) hS (by omega) (by omega)
  obtain ⟨k, hk⟩ : ∃ k, 24 + d = n + k := ⟨24 + d - n, by omega⟩
  obtain ⟨L, S2, e2, hL, h2⟩ := mingled (os := os) (n := 24 + d) h1 (by omega)
  refine ⟨24 + d, renF (24 + d) f L, S2, defM_ret rfl ?_, by omega, ren_ord (so_wide o (by omega)), h2⟩
  show m_law_apart [some (.ref 0), some (matV n n f), none, none, none, none, none] (S ++ os) = _
  unfold m_law_apart
  refine (seq_nx (setS_ok (r_add (i := 24) rfl (callM_ok (consA_ok rfl (consA_ok rfl r_nil)) e1)))).trans ?_
  have sb : ∀ {s : MS} {h : MH}, slot s 1 = some (matV n n f) → slot s 2 = some (nV (24 + d)) → opM subF (varM 2) (bltM lenF (consA (varM 1) nilA)) s h = ok (nV k) h := fun {s h} q1 q2 => by
    rw [r_sub (r_var q2) (len_mat (r_var q1)) (by omega), show 24 + d - n = k by omega]
  have w := r_fls (r_cat (a := flsM (lcM (seqI (varM 1)) [3] (one 3) yesT (flsM (catL (varM 3) (flsM (repL (flsM (lstM (consA (cM (.bl false)) nilA))) (opM subF (varM 2) (bltM lenF (consA (varM 1) nilA))))))))) (b := flsM (lcM (rng1 (consA (opM subF (varM 2) (bltM lenF (consA (varM 1) nilA))) nilA)) [4] (one 4) yesT (flsM (repL (flsM (lstM (consA (cM (.bl false)) nilA))) (varM 2))))) (s := [some (.ref 0), some (matV n n f), some (nV (24 + d)), none, none, none, none]) (h := S1 ++ os)
    (r_fls (l_y (f := fun x => MV.fls (rowB n (f x))) (its := List.range n) (fun x => .fls (rowB n (f x) ++ rowB k fun _ => false)) (q_fls rfl) (by rw [List.length_range]; omega) fun x hx => r_fls (r_cat rfl (repF (by omega) (sb rfl rfl)) (by rw [rowB_len, rowB_len]; omega))))
    (r_fls (l_y (f := nV) (its := List.range k) (fun _ => .fls (rowB (24 + d) fun _ => false)) (q_rng (sb rfl rfl) (by omega)) (by rw [List.length_range]; omega) fun x hx => repF (by omega) rfl)) (by rw [List.length_map, List.length_map, List.length_range, List.length_range]; omega))
  rw [hk, mat_wide o] at w
  rw [hk] at e2 ⊢
  refine (seq_nx (setS_ok w)).trans ((seq_nx (setS_ok (callM_ok (consA_ok rfl (consA_ok rfl r_nil)) e2))).trans ?_)
  rw [hk] at hL
  exact retS_ok (ren_g hL (by omega) rfl (fun _ => rfl) (fun _ _ => rfl) (fun _ _ => rfl) fun _ _ => rfl)
/-- some of the points -/
structure Sub (n : Nat) (L : List Nat) : Prop where
  lt : ∀ x ∈ L, x < n
  nd : L.Nodup
theorem nd_le {n : Nat} {L : List Nat} (h : Sub n L) : L.length ≤ n := by
  have : ∀ (n : Nat) (L : List Nat), (∀ x ∈ L, x < n) → L.Nodup → L.length ≤ n := by
    intro n
    induction n with
    | zero =>
      intro L h _
      cases L with
      | nil => exact Nat.le_refl _
      | cons x L => exact absurd (h x (List.mem_cons_self ..)) (Nat.not_lt_zero _)
    | succ n ih =>
      intro L h hd
      have e := flt_add (p := fun y => decide (y < n)) (q := fun _ => true) (xs := L) fun _ _ _ => rfl
      rw [List.filter_eq_self.mpr fun _ _ => rfl] at e
      have a := ih (L.filter fun y => decide (y < n)) (fun x hx => of_decide_eq_true (List.mem_filter.mp hx).2) (List.Pairwise.filter _ hd)
      have b : (L.filter fun x => true && !decide (x < n)).length ≤ 1 := by
        have nd : (L.filter fun x => true && !decide (x < n)).Nodup := List.Pairwise.filter _ hd
        have un : ∀ x ∈ (L.filter fun x => true && !decide (x < n)), x = n := fun x hx => by
          obtain ⟨a, b⟩ := List.mem_filter.mp hx
          have := h x a
          simp at b
          omega
        match hM : (L.filter fun x => true && !decide (x < n)) with
        | [] => simp
        | [a] => simp
        | a :: b :: r =>
          rw [hM] at nd un
          have e1 := un a (List.mem_cons_self ..)
          have e2 := un b (List.mem_cons_of_mem _ (List.mem_cons_self ..))
          rw [e1, e2] at nd
          exact ((List.nodup_cons.mp nd).1 (List.mem_cons_self ..)).elim
      omega
  exact this n L h.lt h.nd
theorem Sub.all {n : Nat} : Sub n (List.range n) := ⟨fun x hx => List.mem_range.mp hx, List.nodup_range⟩
theorem Sub.flt {n : Nat} {L : List Nat} {p : Nat → Bool} (h : Sub n L) : Sub n (L.filter p) := ⟨fun x hx => h.lt x (List.mem_filter.mp hx).1, List.Pairwise.filter _ h.nd⟩
theorem Sub.sub {n : Nat} {L M : List Nat} (h : Sub n L) (s : M.Sublist L) : Sub n M := ⟨fun x hx => h.lt x (s.mem hx), h.nd.sublist s⟩
theorem told {n : Nat} {f : Nat → Nat → Bool} {L : List Nat} {h : MH} (hn : n ≤ 64) (o : SOrd n f) (s : Sub n L) : f_law_is_told [ordV n (prs n f), matV n n f, .fls (L.map nV)] h = ok (.bl true) h := is_told hn o s.lt s.nd (Nat.le_trans (nd_le s) hn)
/-- some, by draws -/
theorem some_drawn {S os : MH} {j m : Nat} {s : MS} {L : List Nat} {mi : MM MIter} {H1 : MH} {vs : List Nat} {a0 b0 : ME} (hS : St S) (hm : 0 < m) (hm2 : m < 1000) (ei : mi s H1 = ok (.st (L.map nV)) (S ++ os)) (hl : L.length ≤ 64) (h0 : ∀ x, ∀ H, a0 ((wipeM s vs).set j (some x)) H = ok (.ref 0) H) (hb : ∀ x, ∀ H, b0 ((wipeM s vs).set j (some x)) H = ok (nV m) H) (hx : ∀ x, ∀ H, varM j ((wipeM s vs).set j (some x)) H = ok x H) :
    ∃ (M : List Nat) (S' : MH), flsM (lcM mi vs (one j) (tstM (opM gtF (callM f_law_take [] (consA a0 (consA b0 nilA))) (cM (.int 0)))) (varM j)) s H1 = ok (.fls (M.map nV)) (S' ++ os) ∧ M.Sublist L ∧ St S' := by
  obtain ⟨acc, S2, e, h2, hl2, xs, ex, hx2⟩ := lc_m (g := one j) (cd := tstM (opM gtF (callM f_law_take [] (consA a0 (consA b0 nilA))) (cM (.int 0)))) (el := varM j) (s0 := wipeM s vs) (f := nV) (xs := L) (a0 := S)
    (fun S : MH => S ++ os) (fun i acc S => St S ∧ acc.length ≤ i ∧ ∃ xs : List Nat, acc = xs.map nV ∧ xs.Sublist (L.take i)) ⟨hS, Nat.le_refl _, [], rfl, List.nil_sublist _⟩ fun i x acc S hx0 ⟨i1, i2, xs, i3, i4⟩ => by
      obtain ⟨d, S3, e3, hd, h3⟩ := take (os := os) (m := m) i1 hm (by omega)
      have hi := (List.getElem?_eq_some_iff.mp hx0).1
      have tk : L.take (i + 1) = L.take i ++ [x] := by rw [List.take_add_one, hx0]; rfl
      have t : tstM (opM gtF (callM f_law_take [] (consA a0 (consA b0 nilA))) (cM (.int 0))) ((wipeM s vs).set j (some (nV x))) (S ++ os) = ok (decide (0 < d)) (S3 ++ os) := r_tst (r_gt (j := 0) (callM_ok (consA_ok (h0 _ _) (consA_ok (hb _ _) r_nil)) e3) rfl)
      refine ⟨_, rfl, decide (0 < d), S3, t, fun _ => ⟨nV x, S3, hx _ _, by unfold lim; omega, h3, by rw [List.length_append]; exact Nat.succ_le_succ i2, xs ++ [x], by rw [i3, List.map_append]; rfl, ?_⟩, fun _ => ⟨h3, by omega, xs, i3, ?_⟩⟩
      · rw [tk]
        exact i4.append (List.Sublist.refl _)
      · rw [tk]
        exact i4.trans (List.sublist_append_left ..)
  rw [List.take_length] at hx2
  refine ⟨xs, S2, r_fls ((l_st ei).trans ?_), hx2, h2⟩
  rw [e, ex]
end Mi.k18
set_option maxHeartbeats 400000
namespace Mi.k18
open PySem L2
theorem r_rgL {s : MS} {h h1 : MH} {a : ME} {n : Nat} (e : a s h = ok (nV n) h1) (hn : n ≤ 400000) : flsM (rgL a) s h = ok (.fls ((List.range n).map nV)) h1 := r_fls (by
  unfold rgL
  rw [e, bnd_ok]
  show (if (n : Int) ≤ 1000000 ∧ -1000000 ≤ (n : Int) then ok (runOf 0 (n : Int).toNat) h1 else none) = _
  rw [if_pos (by omega), Int.toNat_natCast, run_m])
theorem start {ns : List Int} (hn : ns.length ≤ 63) : ∃ S, f_law_start [.frz (ns.map MV.int)] [] = ok (.ref 0) S ∧ St S := by
  obtain ⟨sd, e, _⟩ := for_m (f := MV.int) (bd := turnM (one 2) b1_law_start) (xs := ns) (fun sd : Int => [some (.frz (ns.map MV.int)), some (.int sd), none]) (fun _ => ([] : MH)) (fun _ _ => True) (a0 := (ns.length : Int)) trivial fun i x sd hx _ => by
    obtain ⟨d, ed⟩ := mixed (a := sd + x) (t := 5) (h := [])
    refine ⟨d, .inl ?_, trivial⟩
    show b1_law_start [some (.frz (ns.map MV.int)), some (.int sd), some (.int x)] [] = _
    unfold b1_law_start
    exact (wip_nx (setS_ok (callM_ok (consA_ok (r_op rfl rfl rfl) (consA_ok rfl r_nil)) ed))).trans rfl
  refine ⟨[MO.lst [.int 0, nV 0, .int 0, .int sd, .fls (ns.map MV.int), .int 0]], defM_ret rfl ?_, ⟨ns, 0, 0, 0, sd, 0, rfl, hn, by omega⟩⟩
  show m_law_start [some (.frz (ns.map MV.int)), none, none] [] = _
  unfold m_law_start
  have l0 : bltM lenF (consA (varM 0) nilA) [some (.frz (ns.map MV.int)), none, none] [] = ok (.int (ns.length : Int)) [] := r_blt (consA_ok rfl r_nil) (by
    show ok (MV.int ((ns.map MV.int).length : Int)) [] = _
    rw [List.length_map])
  refine (seq_nx (setS_ok l0)).trans ?_
  have lp : preW [2] (forM (seqI (varM 0)) (one 2) b1_law_start) [some (.frz (ns.map MV.int)), some (.int (ns.length : Int)), none] [] = some (.nx [some (.frz (ns.map MV.int)), some (.int sd), none] []) := by
    show forM _ _ _ [some (.frz (ns.map MV.int)), some (.int (ns.length : Int)), none] [] = _
    rw [t_for (q_frz (xs := ns.map MV.int) rfl)]
    exact e
  refine (seq_nx lp).trans (retS_ok ?_)
  have la : lstM (consA (cM (.int 0)) (consA (cM (.int 0)) (consA (cM (.int 0)) (consA (varM 1) (consA (flsM (bltL lstF (consA (varM 0) nilA))) (consA (cM (.int 0)) nilA)))))) [some (.frz (ns.map MV.int)), some (.int sd), none] [] = ok [.int 0, .int 0, .int 0, .int sd, .fls (ns.map MV.int), .int 0] [] := r_lst (consA_ok rfl (consA_ok rfl (consA_ok rfl (consA_ok rfl (consA_ok (r_fls rfl) (consA_ok rfl r_nil)))))) (by simp)
  exact (r_ref la).trans rfl
theorem skE : Eqv (α := Nat × Str × Nat) (fun p => True ∧ PyData.canLay0 (.str p.2.1) = true ∧ True) 1 skV (fun p => .tuple [.int (p.1 : Int), .str p.2.1, .int (p.2.2 : Int)]) := Eqv.t3 Eqv.nat Eqv.str Eqv.nat
theorem skL_str {L Z : List Nat} {f : Nat → Nat → Bool} : ∀ p ∈ skL L f Z, True ∧ PyData.canLay0 (.str p.2.1) = true ∧ True := fun p hp => by
  obtain ⟨x, _, hx⟩ := List.mem_flatMap.mp hp
  have d1 : PyData.canLay0 (.str "down") = true := by decide +kernel
  have d2 : PyData.canLay0 (.str "up") = true := by decide +kernel
  rcases List.mem_append.mp hx with h | h <;> obtain ⟨y, _, e⟩ := List.mem_map.mp h <;> rw [← e]
  · exact ⟨trivial, d1, trivial⟩
  · exact ⟨trivial, d2, trivial⟩
def lS (sc : MV) (x3 x4 x5 x6 x8 : Option MV) (x11 : Option MV) : MS := [some sc, some (.ref 0), some (.ref 1), x3, x4, x5, x6, none, x8, none, none, x11]
section
variable {sc : MV} {x3 : Option MV} {n : Nat} {f : Nat → Nat → Bool}
theorem no_ret {s : MS} {h h1 : MH} {t : MM Bool} {x : MV} (e : t s h = ok true h1) : ifS (notT t) (retS (cM x)) nilS s h = some (.nx s h1) := t_if_nil (r_not e)
theorem in_turn {S os : MH} {L : List Nat} (i : MV) (hS : St S) (hn : n ≤ 64) (o : SOrd n f) (s : Sub n L) :
    ∃ (M : List Nat) (S' : MH), (turnM (one 7) b1_law i (lS sc x3 (some (matV n n f)) (some (ordV n (prs n f))) (some (.fls (L.map nV))) none none) (S ++ os) = some (.nx (lS sc x3 (some (matV n n f)) (some (ordV n (prs n f))) (some (.fls (M.map nV))) none none) (S' ++ os)) ∨
      turnM (one 7) b1_law i (lS sc x3 (some (matV n n f)) (some (ordV n (prs n f))) (some (.fls (L.map nV))) none none) (S ++ os) = some (.brk (lS sc x3 (some (matV n n f)) (some (ordV n (prs n f))) (some (.fls (M.map nV))) none none) (S' ++ os))) ∧ Sub n M ∧ St S' := by
  have ll := nd_le s
  have lk := skL_len (f := f) (Z := L) (L := L) (by omega)
  have e1 := told (h := S ++ os) hn o s
  have e2 : f_law_strikes [matV n n f, .fls (L.map nV)] (S ++ os) = ok (.fls ((skL L f L).map skV)) (S ++ os) := strikes s.lt s.nd (by omega)
  have s1 : ifS (notT (truM (callM f_law_is_told [] (consA (varM 5) (consA (varM 4) (consA (varM 6) nilA)))))) (retS (cM (.bl false))) nilS ((lS sc x3 (some (matV n n f)) (some (ordV n (prs n f))) (some (.fls (L.map nV))) none none).set 7 (some i)) (S ++ os) = some (.nx ((lS sc x3 (some (matV n n f)) (some (ordV n (prs n f))) (some (.fls (L.map nV))) none none).set 7 (some i)) (S ++ os)) := no_ret (r_tru (callM_ok (consA_ok rfl (consA_ok rfl (consA_ok rfl r_nil))) e1))
  have s2 : setS 8 (callM f_law_strikes [] (consA (varM 4) (consA (varM 6) nilA))) ((lS sc x3 (some (matV n n f)) (some (ordV n (prs n f))) (some (.fls (L.map nV))) none none).set 7 (some i)) (S ++ os) = some (.nx ((lS sc x3 (some (matV n n f)) (some (ordV n (prs n f))) (some (.fls (L.map nV))) (some (.fls ((skL L f L).map skV))) none).set 7 (some i)) (S ++ os)) := setS_ok (callM_ok (consA_ok rfl (consA_ok rfl r_nil)) e2)
  have t3 : tstM (opM eqF (varM 8) (flsM (lstM nilA))) ((lS sc x3 (some (matV n n f)) (some (ordV n (prs n f))) (some (.fls (L.map nV))) (some (.fls ((skL L f L).map skV))) none).set 7 (some i)) (S ++ os) = ok (decide (skL L f L = [])) (S ++ os) := r_tst (r_eqv skE.fl (by omega) (a := skL L f L) (b := []) skL_str (fun _ h => nomatch h) rfl (r_fls (r_lst r_nil (by simp))))
  show ∃ (M : List Nat) (S' : MH), (b1_law ((lS sc x3 (some (matV n n f)) (some (ordV n (prs n f))) (some (.fls (L.map nV))) none none).set 7 (some i)) (S ++ os) = _ ∨ b1_law ((lS sc x3 (some (matV n n f)) (some (ordV n (prs n f))) (some (.fls (L.map nV))) none none).set 7 (some i)) (S ++ os) = _) ∧ _
  unfold b1_law
  rw [wip_seq s1, wip_seq s2]
  by_cases c : skL L f L = []
  · rw [decide_eq_true c] at t3
    refine ⟨L, S, .inr ?_, s, hS⟩
    refine (wip_brk (s1 := (lS sc x3 (some (matV n n f)) (some (ordV n (prs n f))) (some (.fls (L.map nV))) (some (.fls ((skL L f L).map skV))) none).set 7 (some i)) (h1 := S ++ os) ?_).trans rfl
    have : ifS (tstM (opM eqF (varM 8) (flsM (lstM nilA)))) brkS nilS ((lS sc x3 (some (matV n n f)) (some (ordV n (prs n f))) (some (.fls (L.map nV))) (some (.fls ((skL L f L).map skV))) none).set 7 (some i)) (S ++ os) = some (.brk ((lS sc x3 (some (matV n n f)) (some (ordV n (prs n f))) (some (.fls (L.map nV))) (some (.fls ((skL L f L).map skV))) none).set 7 (some i)) (S ++ os)) := ifS_t t3
    unfold seqS
    rw [this]
  · rw [decide_eq_false c] at t3
    have pos : 0 < (skL L f L).length := List.length_pos_iff.mpr c
    obtain ⟨d, S1, e3, hd, h1⟩ := take (os := os) (m := (skL L f L).length) hS pos (by omega)
    obtain ⟨q, hq⟩ : ∃ q, (skL L f L)[d]? = some q := ⟨_, List.getElem?_eq_getElem hd⟩
    have hq2 : ((skL L f L).map skV)[d]? = some (skV q) := by rw [List.getElem?_map, hq]; rfl
    refine ⟨L.filter fun y => !decide (y = q.1), S1, .inl ?_, s.flt, h1⟩
    have s3 : ifS (tstM (opM eqF (varM 8) (flsM (lstM nilA)))) brkS nilS ((lS sc x3 (some (matV n n f)) (some (ordV n (prs n f))) (some (.fls (L.map nV))) (some (.fls ((skL L f L).map skV))) none).set 7 (some i)) (S ++ os) = _ := t_if_nil t3
    have el : bltM lenF (consA (varM 8) nilA) ((lS sc x3 (some (matV n n f)) (some (ordV n (prs n f))) (some (.fls (L.map nV))) (some (.fls ((skL L f L).map skV))) none).set 7 (some i)) (S ++ os) = ok (nV (skL L f L).length) (S ++ os) := by
      have := r_len (a := varM 8) (xs := (skL L f L).map skV) (s := (lS sc x3 (some (matV n n f)) (some (ordV n (prs n f))) (some (.fls (L.map nV))) (some (.fls ((skL L f L).map skV))) none).set 7 (some i)) (h := S ++ os) rfl
      rw [List.length_map] at this
      exact this
    refine (wip_nx ((seq_nx s3).trans ((seq_nx (setS_ok (r_ixt (i := 0) (r_ix (i := d) rfl (callM_ok (consA_ok rfl (consA_ok el r_nil)) e3) hq2) rfl rfl))).trans (setS_ok (r_fls (l_p (f := nV) (its := L) (fun y => !decide (y = q.1)) nV (q_fls rfl) (by omega) fun y _ => ⟨r_tst (r_ne rfl rfl), fun _ => rfl⟩)))))).trans rfl
theorem in_loop {S os : MH} {L : List Nat} {k : Nat} {m : MM MIter} {S0 : MH} (em : m (lS sc x3 (some (matV n n f)) (some (ordV n (prs n f))) (some (.fls (L.map nV))) none none) S0 = ok (.st ((List.range k).map nV)) (S ++ os)) (hS : St S) (hn : n ≤ 64) (o : SOrd n f) (s : Sub n L) :
    ∃ (M : List Nat) (S' : MH), preW [7, 8, 9] (forM m (one 7) b1_law) (lS sc x3 (some (matV n n f)) (some (ordV n (prs n f))) (some (.fls (L.map nV))) none none) S0 = some (.nx (lS sc x3 (some (matV n n f)) (some (ordV n (prs n f))) (some (.fls (M.map nV))) none none) (S' ++ os)) ∧ Sub n M ∧ St S' := by
  obtain ⟨⟨S2, M⟩, e, h2, s2⟩ := for_mb (f := nV) (bd := turnM (one 7) b1_law) (xs := List.range k) (fun a : MH × List Nat => lS sc x3 (some (matV n n f)) (some (ordV n (prs n f))) (some (.fls (a.2.map nV))) none none) (fun a => a.1 ++ os) (fun a => St a.1 ∧ Sub n a.2) (a0 := (S, L)) ⟨hS, s⟩ fun x _ a ⟨q1, q2⟩ => by
    obtain ⟨M, S', e, q3, q4⟩ := in_turn (sc := sc) (x3 := x3) (os := os) (nV x) q1 hn o q2
    refine ⟨(S', M), ?_, q4, q3⟩
    rcases e with e | e
    · exact .inl e
    · exact .inr (.inr e)
  refine ⟨M, S2, ?_, s2, h2⟩
  show forM _ _ _ (lS sc x3 (some (matV n n f)) (some (ordV n (prs n f))) (some (.fls (L.map nV))) none none) S0 = _
  rw [t_for em]
  exact e
def itemV (n : Nat) (f : Nat → Nat → Bool) : MV := .fls [ordV n (prs n f), matV n n f, .fls ((List.range n).map nV)]
theorem out_turn {S : MH} {ws : List MV} (i : MV) (x4 x5 x6 : Option MV) (hS : St S) (hw : ws.length ≤ 10) :
    ∃ (n : Nat) (f : Nat → Nat → Bool) (L : List Nat) (S' : MH), turnM (one 3) b2_law i (lS sc none x4 x5 x6 none none) (S ++ [MO.lst ws]) = some (.nx (lS sc none (some (matV n n f)) (some (ordV n (prs n f))) (some (.fls (L.map nV))) none none) (S' ++ [MO.lst (ws ++ [itemV n f])])) ∧ n ≤ 16 ∧ SOrd n f ∧ Sub n L ∧ St S' := by
  obtain ⟨n, f, S1, e1, hn, o, h1⟩ := drawn (os := [MO.lst ws]) hS
  have e2 : f_law_order [matV n n f] (S1 ++ [MO.lst ws]) = ok (ordV n (prs n f)) (S1 ++ [MO.lst ws]) := order (by omega)
  obtain ⟨d, S2, e3, hd, h2⟩ := take (os := [MO.lst (ws ++ [itemV n f])]) (m := 6) h1 (by omega) (by omega)
  obtain ⟨L, S3, e4, sL, h3⟩ := in_loop (sc := sc) (x3 := some i) (S := S2) (os := [MO.lst (ws ++ [itemV n f])]) (L := List.range n) (k := 1 + d) (m := rng1 (consA (opM addF (cM (.int 1)) (callM f_law_take [] (consA (varM 1) (consA (cM (.int 6)) nilA)))) nilA)) (S0 := S1 ++ [MO.lst (ws ++ [itemV n f])]) (q_rng (r_add (i := 1) rfl (callM_ok (consA_ok rfl (consA_ok rfl r_nil)) e3)) (by omega)) h2 (by omega) o Sub.all
  have e5 := told (h := S3 ++ [MO.lst (ws ++ [itemV n f])]) (by omega) o sL
  obtain ⟨M, S4, e6, sM, h4⟩ := some_drawn (j := 9) (m := 3) (L := List.range n) (os := [MO.lst (ws ++ [itemV n f])]) (mi := rng1 (consA (bltM lenF (consA (varM 4) nilA)) nilA)) (vs := [9]) (a0 := varM 1) (b0 := cM (.int 3)) (s := lS sc (some i) (some (matV n n f)) (some (ordV n (prs n f))) (some (.fls (L.map nV))) none none) (H1 := S3 ++ [MO.lst (ws ++ [itemV n f])]) h3 (by omega) (by omega) (q_rng (len_mat rfl) (by omega)) (by rw [List.length_range]; omega) (fun _ _ => rfl) (fun _ _ => rfl) (fun _ _ => rfl)
  have e7 := told (h := S4 ++ [MO.lst (ws ++ [itemV n f])]) (by omega) o (Sub.all.sub sM)
  refine ⟨n, f, L, S4, ?_, hn, o, sL, h4⟩
  show b2_law (lS sc (some i) x4 x5 x6 none none) (S ++ [MO.lst ws]) = _
  unfold b2_law
  have b : (S1 ++ [MO.lst ws])[1]? = some (.lst ws) := by rw [ga0 h1.len]; rfl
  refine (wip_seq (setS_ok (callM_ok (consA_ok rfl r_nil) e1))).trans ((wip_seq (setS_ok (callM_ok (consA_ok rfl r_nil) e2))).trans ((wip_seq (setS_ok (r_rgL (len_mat rfl) (by omega)))).trans ?_))
  refine (wip_seq (t_drop (r_app (l := 1) rfl (consA_ok (x := itemV n f) (r_fls (r_lst (consA_ok rfl (consA_ok rfl (consA_ok rfl r_nil))) (by simp))) r_nil) b b (by omega)))).trans ?_
  rw [sa0 h1.len]
  refine (wip_seq e4).trans ?_
  refine (wip_seq (no_ret (r_tru (callM_ok (consA_ok rfl (consA_ok rfl (consA_ok rfl r_nil))) e5)))).trans ?_
  exact (wip_nx (no_ret (r_tru (callM_ok (consA_ok rfl (consA_ok rfl (consA_ok e6 r_nil))) e7)))).trans rfl
theorem forL_nx {bd : MV → MT} {l k i : Nat} {s s1 : MS} {h h1 : MH} {xs : List MV} {x : MV} (e : h[l]? = some (.lst xs)) (ex : xs[i]? = some x) (eb : bd x s h = some (.nx s1 h1)) : forL bd l (k + 1) i s h = forL bd l k (i + 1) s1 h1 := by
  rw [forL, e]
  dsimp only
  rw [ex]
  dsimp only
  rw [eb]
theorem forL_end {bd : MV → MT} {l k i : Nat} {s : MS} {h : MH} {xs : List MV} (e : h[l]? = some (.lst xs)) (ex : xs[i]? = none) : forL bd l (k + 1) i s h = some (.nx s h) := by
  rw [forL, e]
  dsimp only
  rw [ex]
theorem again {S : MH} {ws : List MV} (x4 x5 x6 : Option MV) (hn : n ≤ 64) (o : SOrd n f) : turnM (unpL [5, 4, 6]) b3_law (itemV n f) (lS sc none x4 x5 x6 none none) (S ++ [MO.lst ws]) = some (.nx (lS sc none (some (matV n n f)) (some (ordV n (prs n f))) (some (.fls ((List.range n).map nV))) none none) (S ++ [MO.lst ws])) := by
  have u : unpL [5, 4, 6] (itemV n f) (lS sc none x4 x5 x6 none none) = some (lS sc none (some (matV n n f)) (some (ordV n (prs n f))) (some (.fls ((List.range n).map nV))) none none) := rfl
  unfold turnM
  rw [u]
  dsimp only
  unfold b3_law
  exact no_ret (r_tru (callM_ok (consA_ok rfl (consA_ok rfl (consA_ok rfl r_nil))) (told hn o Sub.all)))
end
end Mi.k18
set_option maxHeartbeats 1000000
namespace Mi.k18
open PySem L2
/-- some, by any test that draws -/
theorem some_g {S os : MH} {j : Nat} {s : MS} {L : List Nat} {mi : MM MIter} {H1 : MH} {vs : List Nat} {cd : MM Bool} (hS : St S) (ei : mi s H1 = ok (.st (L.map nV)) (S ++ os)) (hl : L.length ≤ 64) (hcd : ∀ (x : Nat) (S : MH), St S → ∃ (b : Bool) (S' : MH), cd ((wipeM s vs).set j (some (nV x))) (S ++ os) = ok b (S' ++ os) ∧ St S') (hx : ∀ x, ∀ H, varM j ((wipeM s vs).set j (some x)) H = ok x H) :
    ∃ (M : List Nat) (S' : MH), flsM (lcM mi vs (one j) cd (varM j)) s H1 = ok (.fls (M.map nV)) (S' ++ os) ∧ M.Sublist L ∧ St S' := by
  obtain ⟨acc, S2, e, h2, hl2, xs, ex, hx2⟩ := lc_m (g := one j) (cd := cd) (el := varM j) (s0 := wipeM s vs) (f := nV) (xs := L) (a0 := S)
    (fun S : MH => S ++ os) (fun i acc S => St S ∧ acc.length ≤ i ∧ ∃ xs : List Nat, acc = xs.map nV ∧ xs.Sublist (L.take i)) ⟨hS, Nat.le_refl _, [], rfl, List.nil_sublist _⟩ fun i x acc S hx0 ⟨i1, i2, xs, i3, i4⟩ => by
      obtain ⟨b, S3, t, h3⟩ := hcd x S i1
      have hi := (List.getElem?_eq_some_iff.mp hx0).1
      have tk : L.take (i + 1) = L.take i ++ [x] := by rw [List.take_add_one, hx0]; rfl
      refine ⟨_, rfl, b, S3, t, fun _ => ⟨nV x, S3, hx _ _, by unfold lim; omega, h3, by rw [List.length_append]; exact Nat.succ_le_succ i2, xs ++ [x], by rw [i3, List.map_append]; rfl, ?_⟩, fun _ => ⟨h3, by omega, xs, i3, ?_⟩⟩
      · rw [tk]
        exact i4.append (List.Sublist.refl _)
      · rw [tk]
        exact i4.trans (List.sublist_append_left ..)
  rw [List.take_length] at hx2
  refine ⟨xs, S2, r_fls ((l_st ei).trans ?_), hx2, h2⟩
  rw [e, ex]
theorem apart_part {sc : MV} {n : Nat} {f : Nat → Nat → Bool} {S os : MH} {x5 x6 : Option MV} (hS : St S) (hn : n ≤ 16) (o : SOrd n f) :
    ∃ (x4 x11 : Option MV) (S' : MH), ifS (tstM (opM eqF (callM f_law_take [] (consA (varM 1) (consA (cM (.int 12)) nilA))) (cM (.int 0)))) (seqS (setS 4 (callM f_law_apart [] (consA (varM 1) (consA (varM 4) nilA))))
    (seqS (setS 11 (opM ixF (flsM (lstM (consA (cM (.int 1)) (consA (cM (.int 9)) nilA)))) (callM f_law_take [] (consA (varM 1) (consA (cM (.int 2)) nilA)))))
    (ifS (notT (truM (callM f_law_is_told [] (consA (callM f_law_order [] (consA (varM 4) nilA)) (consA (varM 4) (consA (flsM (lcM (rng1 (consA (bltM lenF (consA (varM 4) nilA)) nilA)) [9] (one 9) (orT (tstM (opM eqF (varM 11) (cM (.int 1)))) (tstM (opM gtF (callM f_law_take [] (consA (varM 1) (consA (varM 11) nilA))) (cM (.int 0))))) (varM 9))) nilA)))))) (retS (cM (.bl false))) nilS))) nilS (lS sc none (some (matV n n f)) x5 x6 none none) (S ++ os) = some (.nx (lS sc none x4 x5 x6 none x11) (S' ++ os)) ∧ St S' := by
  obtain ⟨d, S1, e1, hd, h1⟩ := take (os := os) (m := 12) hS (by omega) (by omega)
  have t : tstM (opM eqF (callM f_law_take [] (consA (varM 1) (consA (cM (.int 12)) nilA))) (cM (.int 0))) (lS sc none (some (matV n n f)) x5 x6 none none) (S ++ os) = ok (decide (d = 0)) (S1 ++ os) := r_tst (r_eq (j := 0) (callM_ok (consA_ok rfl (consA_ok rfl r_nil)) e1) rfl)
  by_cases c : d = 0
  · rw [decide_eq_true c] at t
    obtain ⟨m, g, S2, e2, hm, og, h2⟩ := apart (os := os) h1 hn o
    obtain ⟨u, S3, e3, hu, h3⟩ := take (os := os) (m := 2) h2 (by omega) (by omega)
    obtain ⟨few, hf, hf2⟩ : ∃ few : Nat, ([MV.int 1, .int 9] : List MV)[u]? = some (nV few) ∧ (few = 1 ∨ few = 9) := by
      have : u = 0 ∨ u = 1 := by omega
      rcases this with z | z <;> subst z
      · exact ⟨1, rfl, .inl rfl⟩
      · exact ⟨9, rfl, .inr rfl⟩
    obtain ⟨M, S4, e4, sM, h4⟩ := some_g (s := lS sc none (some (matV m m g)) x5 x6 none (some (nV few))) (j := 9) (L := List.range m) (os := os) (mi := rng1 (consA (bltM lenF (consA (varM 4) nilA)) nilA)) (vs := [9]) (cd := orT (tstM (opM eqF (varM 11) (cM (.int 1)))) (tstM (opM gtF (callM f_law_take [] (consA (varM 1) (consA (varM 11) nilA))) (cM (.int 0))))) (H1 := S3 ++ os) h3 (q_rng (len_mat rfl) (by omega)) (by rw [List.length_range]; omega) (fun x S hS => by
        have t1 : tstM (opM eqF (varM 11) (cM (.int 1))) ((wipeM (lS sc none (some (matV m m g)) x5 x6 none (some (nV few))) [9]).set 9 (some (nV x))) (S ++ os) = ok (decide (few = 1)) (S ++ os) := r_tst (r_eq (i := few) (j := 1) rfl rfl)
        by_cases c1 : few = 1
        · rw [decide_eq_true c1] at t1
          exact ⟨true, S, r_or_t t1, hS⟩
        · rw [decide_eq_false c1] at t1
          obtain ⟨w, S5, e5, hw, h5⟩ := take (os := os) (m := few) hS (by omega) (by omega)
          exact ⟨_, S5, r_or_f t1 (r_tst (r_gt (j := 0) (callM_ok (consA_ok rfl (consA_ok rfl r_nil)) e5) rfl)), h5⟩) (fun _ _ => rfl)
    have e5 : f_law_order [matV m m g] (S3 ++ os) = ok (ordV m (prs m g)) (S3 ++ os) := order hm
    have e6 := told (h := S4 ++ os) hm og (Sub.all.sub sM)
    refine ⟨some (matV m m g), some (nV few), S4, (ifS_t t).trans ?_, h4⟩
    refine (seq_nx (setS_ok (callM_ok (consA_ok rfl (consA_ok rfl r_nil)) e2))).trans ?_
    refine (seq_nx (setS_ok (r_ix (i := u) (r_fls (r_lst (consA_ok rfl (consA_ok rfl r_nil)) (by simp))) (callM_ok (consA_ok rfl (consA_ok rfl r_nil)) e3) hf))).trans ?_
    exact (no_ret (r_tru (callM_ok (consA_ok (callM_ok (consA_ok rfl r_nil) e5) (consA_ok rfl (consA_ok e4 r_nil))) e6))).trans rfl
  · rw [decide_eq_false c] at t
    exact ⟨some (matV n n f), none, S1, t_if_nil t, h1⟩
theorem main : ∀ ns : List Int, ns.length ≤ 63 → ∃ h, f_law [.frz (ns.map MV.int)] [] = ok (.bl true) h := fun ns hns => by
  obtain ⟨S0, e0, h0⟩ := start hns
  obtain ⟨sc, hsc⟩ : ∃ sc : MV, sc = .frz (ns.map MV.int) := ⟨_, rfl⟩
  rw [← hsc] at e0 ⊢
  obtain ⟨n1, f1, L1, S1, e1, hn1, o1, s1, h1⟩ := out_turn (sc := sc) (ws := []) (nV 0) none none none h0 (by simp)
  obtain ⟨n2, f2, L2, S2, e2, hn2, o2, s2, h2⟩ := out_turn (sc := sc) (ws := [] ++ [itemV n1 f1]) (nV 1) (some (matV n1 n1 f1)) (some (ordV n1 (prs n1 f1))) (some (.fls (L1.map nV))) h1 (by simp)
  rw [List.nil_append] at e1 e2
  have a1 := again (sc := sc) (S := S2) (ws := [itemV n1 f1] ++ [itemV n2 f2]) (some (matV n2 n2 f2)) (some (ordV n2 (prs n2 f2))) (some (.fls (L2.map nV))) (n := n1) (f := f1) (by omega) o1
  have a2 := again (sc := sc) (S := S2) (ws := [itemV n1 f1] ++ [itemV n2 f2]) (some (matV n1 n1 f1)) (some (ordV n1 (prs n1 f1))) (some (.fls ((List.range n1).map nV))) (n := n2) (f := f2) (by omega) o2
  have at1 : (S2 ++ [MO.lst ([itemV n1 f1] ++ [itemV n2 f2])])[1]? = some (.lst ([itemV n1 f1] ++ [itemV n2 f2])) := by rw [ga0 h2.len]; rfl
  obtain ⟨x4, x11, S3, e3, h3⟩ := apart_part (sc := sc) (os := [MO.lst ([itemV n1 f1] ++ [itemV n2 f2])]) (x5 := some (ordV n2 (prs n2 f2))) (x6 := some (.fls ((List.range n2).map nV))) h2 hn2 o2
  obtain ⟨M, S4, e4, sM, h4⟩ := some_drawn (j := 9) (m := 4) (L := List.range n2) (os := [MO.lst ([itemV n1 f1] ++ [itemV n2 f2])]) (mi := seqI (varM 6)) (vs := [9]) (a0 := varM 1) (b0 := cM (.int 4)) (s := lS sc none x4 (some (ordV n2 (prs n2 f2))) (some (.fls ((List.range n2).map nV))) none x11) (H1 := S3 ++ [MO.lst ([itemV n1 f1] ++ [itemV n2 f2])]) h3 (by omega) (by omega) (q_fls rfl) (by rw [List.length_range]; omega) (fun _ _ => rfl) (fun _ _ => rfl) (fun _ _ => rfl)
  have sub : Sub n2 M := Sub.all.sub sM
  have ml := nd_le sub
  have e5 : f_strikes_of [ordV n2 (prs n2 f2), .tup (M.map nV)] (S4 ++ [MO.lst ([itemV n1 f1] ++ [itemV n2 f2])]) = ok (soV n2 f2 M) (S4 ++ [MO.lst ([itemV n1 f1] ++ [itemV n2 f2])]) := rem.strikes_of (by omega) sub.lt (by omega)
  have e6 : f_law_due [matV n2 n2 f2, .fls (M.map nV)] (S4 ++ [MO.lst ([itemV n1 f1] ++ [itemV n2 f2])]) = ok (soV n2 f2 M) (S4 ++ [MO.lst ([itemV n1 f1] ++ [itemV n2 f2])]) := due o2 sub.lt sub.nd (by omega)
  have e7 : f_law_same [soV n2 f2 M, soV n2 f2 M] (S4 ++ [MO.lst ([itemV n1 f1] ++ [itemV n2 f2])]) = ok (.bl true) (S4 ++ [MO.lst ([itemV n1 f1] ++ [itemV n2 f2])]) := same (plB_so (by omega))
  have at4 : (S4 ++ [MO.lst ([itemV n1 f1] ++ [itemV n2 f2])])[1]? = some (.lst ([itemV n1 f1] ++ [itemV n2 f2])) := by rw [ga0 h4.len]; rfl
  refine ⟨S4 ++ [MO.lst ([itemV n1 f1] ++ [itemV n2 f2])], defM_ret rfl ?_⟩
  show m_law [some sc, none, none, none, none, none, none, none, none, none, none, none] [] = _
  unfold m_law
  refine (seq_nx (setS_ok (callM_ok (consA_ok rfl r_nil) e0))).trans ?_
  have r2 : refM (lstM nilA) ([some sc, none, none, none, none, none, none, none, none, none, none, none].set 1 (some (.ref 0))) S0 = ok (.ref 1) (S0 ++ [MO.lst []]) := (r_ref (r_lst r_nil (by simp))).trans (by rw [h0.len])
  refine (seq_nx (setS_ok r2)).trans ?_
  have lp1 : preW [3, 7, 8, 9] (forM (rng1 (consA (cM (.int 2)) nilA)) (one 3) b2_law) (lS sc none none none none none none) (S0 ++ [MO.lst []]) = some (.nx (lS sc none (some (matV n2 n2 f2)) (some (ordV n2 (prs n2 f2))) (some (.fls (L2.map nV))) none none) (S2 ++ [MO.lst ([itemV n1 f1] ++ [itemV n2 f2])])) := by
    show forM _ _ _ (lS sc none none none none none none) (S0 ++ [MO.lst []]) = _
    refine (t_for (q_rng (n := 2) (a := cM (.int 2)) rfl (by omega))).trans ?_
    show forS _ [nV 0, nV 1] _ _ = _
    exact (forS_nx e1).trans ((forS_nx e2).trans rfl)
  refine (seq_nx lp1).trans ?_
  have lp2 : forM (seqI (varM 2)) (unpL [5, 4, 6]) b3_law (lS sc none (some (matV n2 n2 f2)) (some (ordV n2 (prs n2 f2))) (some (.fls (L2.map nV))) none none) (S2 ++ [MO.lst ([itemV n1 f1] ++ [itemV n2 f2])]) = some (.nx (lS sc none (some (matV n2 n2 f2)) (some (ordV n2 (prs n2 f2))) (some (.fls ((List.range n2).map nV))) none none) (S2 ++ [MO.lst ([itemV n1 f1] ++ [itemV n2 f2])])) := by
    refine (t_forD (q_ref rfl at1)).trans ?_
    exact (forL_nx at1 rfl a1).trans ((forL_nx at1 rfl a2).trans (forL_end at1 rfl))
  refine (seq_nx lp2).trans ((seq_nx e3).trans ((seq_nx (setS_ok e4)).trans (retS_ok ?_)))
  have kw : callKM f_strikes_of 0 2 [1, 0] [] nilA (consA (bltM tupF (consA (varM 6) nilA)) (consA (varM 5) nilA)) (lS sc none x4 (some (ordV n2 (prs n2 f2))) (some (.fls (M.map nV))) none x11) (S4 ++ [MO.lst ([itemV n1 f1] ++ [itemV n2 f2])]) = ok (soV n2 f2 M) (S4 ++ [MO.lst ([itemV n1 f1] ++ [itemV n2 f2])]) := (callKM_0 (zs := [.tup (M.map nV), ordV n2 (prs n2 f2)]) (consA_ok (r_tupf rfl) (consA_ok rfl r_nil)) rfl).trans (by
    show noex (f_strikes_of [ordV n2 (prs n2 f2), .tup (M.map nV)] _) = _
    rw [e5]
    rfl)
  refine callM_ok (consA_ok kw (consA_ok (callM_ok (consA_ok (r_ix (i := 1) (r_ixr (i := 1) rfl rfl at4 rfl) rfl rfl) (consA_ok rfl r_nil)) e6) r_nil)) e7
end Mi.k18
set_option maxHeartbeats 8000000
namespace Mi.k18
open PySem L2
def topS (i : Nat) : Stmt := PySem.Challenge.pw_strikecore_k18_strikes_that_can_be_made.main.body.getD i (.Pass ⟨0, 0, 0, 0⟩)
abbrev s_Remainder___init__ : Stmt := inClass (topS 2) 0
theorem sc_Remainder___init__ : FnScope ["self", "order", "points", "size", "pairs", "point", "_", "low", "high", "row"] ["self", "order", "points"] (defScope s_Remainder___init__) := ⟨rfl, rfl, rfl, by decide +kernel, rfl, by decide +kernel, by decide +kernel⟩
abbrev s_Remainder_find_partner : Stmt := inClass (topS 2) 2
theorem sc_Remainder_find_partner : FnScope ["self", "x", "way", "near", "counts", "point"] ["self", "x", "way"] (defScope s_Remainder_find_partner) := ⟨rfl, rfl, rfl, by decide +kernel, rfl, by decide +kernel, by decide +kernel⟩
abbrev s_strikes_of : Stmt := topS 3
theorem sc_strikes_of : FnScope ["order", "points", "rest", "x", "way"] ["order", "points"] (defScope s_strikes_of) := ⟨rfl, rfl, rfl, by decide +kernel, rfl, by decide +kernel, by decide +kernel⟩
abbrev s_law_mixed : Stmt := topS 5
theorem sc_law_mixed : FnScope ["number", "k", "once", "again"] ["number", "k"] (defScope s_law_mixed) := ⟨rfl, rfl, rfl, by decide +kernel, rfl, by decide +kernel, by decide +kernel⟩
abbrev s_law_start : Stmt := topS 6
theorem sc_law_start : FnScope ["script", "seed", "cell"] ["script"] (defScope s_law_start) := ⟨rfl, rfl, rfl, by decide +kernel, rfl, by decide +kernel, by decide +kernel⟩
abbrev s_law_take : Stmt := topS 7
theorem sc_law_take : FnScope ["state", "limit", "cells", "cell", "digit"] ["state", "limit"] (defScope s_law_take) := ⟨rfl, rfl, rfl, by decide +kernel, rfl, by decide +kernel, by decide +kernel⟩
abbrev s_law_same : Stmt := topS 8
theorem sc_law_same : FnScope ["actual", "due", "k"] ["actual", "due"] (defScope s_law_same) := ⟨rfl, rfl, rfl, by decide +kernel, rfl, by decide +kernel, by decide +kernel⟩
abbrev s_law_mingled : Stmt := topS 9
theorem sc_law_mingled : FnScope ["state", "n", "pool", "k"] ["state", "n"] (defScope s_law_mingled) := ⟨rfl, rfl, rfl, by decide +kernel, rfl, by decide +kernel, by decide +kernel⟩
abbrev s_law_any : Stmt := topS 10
theorem sc_law_any : FnScope ["state", "n", "row", "up", "x", "many", "i", "line", "j", "y"] ["state", "n"] (defScope s_law_any) := ⟨rfl, rfl, rfl, by decide +kernel, rfl, by decide +kernel, by decide +kernel⟩
abbrev s_law_levels : Stmt := topS 11
theorem sc_law_levels : FnScope ["state", "place", "level", "high", "low"] ["state"] (defScope s_law_levels) := ⟨rfl, rfl, rfl, by decide +kernel, rfl, by decide +kernel, by decide +kernel⟩
abbrev s_law_ring : Stmt := topS 12
theorem sc_law_ring : FnScope ["k", "up", "x", "i", "low", "line"] ["k"] (defScope s_law_ring) := ⟨rfl, rfl, rfl, by decide +kernel, rfl, by decide +kernel, by decide +kernel⟩
abbrev s_law_grown : Stmt := topS 13
theorem sc_law_grown : FnScope ["state", "up", "many", "ways", "turn", "n", "q", "under", "over", "x", "y", "z"] ["state", "up", "many", "ways"] (defScope s_law_grown) := ⟨rfl, rfl, rfl, by decide +kernel, rfl, by decide +kernel, by decide +kernel⟩
abbrev s_law_drawn : Stmt := topS 14
theorem sc_law_drawn : FnScope ["state", "way", "up", "row", "y", "x"] ["state"] (defScope s_law_drawn) := ⟨rfl, rfl, rfl, by decide +kernel, rfl, by decide +kernel, by decide +kernel⟩
abbrev s_law_order : Stmt := topS 15
theorem sc_law_order : FnScope ["up", "found", "x", "y"] ["up"] (defScope s_law_order) := ⟨rfl, rfl, rfl, by decide +kernel, rfl, by decide +kernel, by decide +kernel⟩
abbrev s_law_strikes : Stmt := topS 16
theorem sc_law_strikes : FnScope ["up", "left", "lows", "highs", "x", "y", "found"] ["up", "left"] (defScope s_law_strikes) := ⟨rfl, rfl, rfl, by decide +kernel, rfl, by decide +kernel, by decide +kernel⟩
abbrev s_law_due : Stmt := topS 17
theorem sc_law_due : FnScope ["up", "left", "one"] ["up", "left"] (defScope s_law_due) := ⟨rfl, rfl, rfl, by decide +kernel, rfl, by decide +kernel, by decide +kernel⟩
abbrev s_law_is_told : Stmt := topS 18
theorem sc_law_is_told : FnScope ["order", "up", "left"] ["order", "up", "left"] (defScope s_law_is_told) := ⟨rfl, rfl, rfl, by decide +kernel, rfl, by decide +kernel, by decide +kernel⟩
abbrev s_law_apart : Stmt := topS 19
theorem sc_law_apart : FnScope ["state", "up", "n", "line", "x", "row", "y"] ["state", "up"] (defScope s_law_apart) := ⟨rfl, rfl, rfl, by decide +kernel, rfl, by decide +kernel, by decide +kernel⟩
abbrev s_law : Stmt := topS 20
theorem sc_law : FnScope ["script", "state", "asked", "turn", "up", "order", "left", "k", "rows", "x", "y", "few"] ["script"] (defScope s_law) := ⟨rfl, rfl, rfl, by decide +kernel, rfl, by decide +kernel, by decide +kernel⟩
structure Txt (K : PySem.W.Frag) (mg : Str → Option Value) where
  a_Remainder___init__ : Addr
  d_Remainder___init__ : FuncData
  F_Remainder___init__ : Fun K "__init__" "Remainder.__init__" s_Remainder___init__ a_Remainder___init__ d_Remainder___init__
  a_Remainder_find_partner : Addr
  d_Remainder_find_partner : FuncData
  F_Remainder_find_partner : Fun K "find_partner" "Remainder.find_partner" s_Remainder_find_partner a_Remainder_find_partner d_Remainder_find_partner
  a_strikes_of : Addr
  d_strikes_of : FuncData
  F_strikes_of : Fun K "strikes_of" "strikes_of" s_strikes_of a_strikes_of d_strikes_of
  g_strikes_of : mg "strikes_of" = some (.ref a_strikes_of)
  a_law_mixed : Addr
  d_law_mixed : FuncData
  F_law_mixed : Fun K "_law_mixed" "_law_mixed" s_law_mixed a_law_mixed d_law_mixed
  g_law_mixed : mg "_law_mixed" = some (.ref a_law_mixed)
  a_law_start : Addr
  d_law_start : FuncData
  F_law_start : Fun K "_law_start" "_law_start" s_law_start a_law_start d_law_start
  g_law_start : mg "_law_start" = some (.ref a_law_start)
  a_law_take : Addr
  d_law_take : FuncData
  F_law_take : Fun K "_law_take" "_law_take" s_law_take a_law_take d_law_take
  g_law_take : mg "_law_take" = some (.ref a_law_take)
  a_law_same : Addr
  d_law_same : FuncData
  F_law_same : Fun K "_law_same" "_law_same" s_law_same a_law_same d_law_same
  g_law_same : mg "_law_same" = some (.ref a_law_same)
  a_law_mingled : Addr
  d_law_mingled : FuncData
  F_law_mingled : Fun K "_law_mingled" "_law_mingled" s_law_mingled a_law_mingled d_law_mingled
  g_law_mingled : mg "_law_mingled" = some (.ref a_law_mingled)
  a_law_any : Addr
  d_law_any : FuncData
  F_law_any : Fun K "_law_any" "_law_any" s_law_any a_law_any d_law_any
  g_law_any : mg "_law_any" = some (.ref a_law_any)
  a_law_levels : Addr
  d_law_levels : FuncData
  F_law_levels : Fun K "_law_levels" "_law_levels" s_law_levels a_law_levels d_law_levels
  g_law_levels : mg "_law_levels" = some (.ref a_law_levels)
  a_law_ring : Addr
  d_law_ring : FuncData
  F_law_ring : Fun K "_law_ring" "_law_ring" s_law_ring a_law_ring d_law_ring
  g_law_ring : mg "_law_ring" = some (.ref a_law_ring)
  a_law_grown : Addr
  d_law_grown : FuncData
  F_law_grown : Fun K "_law_grown" "_law_grown" s_law_grown a_law_grown d_law_grown
  g_law_grown : mg "_law_grown" = some (.ref a_law_grown)
  a_law_drawn : Addr
  d_law_drawn : FuncData
  F_law_drawn : Fun K "_law_drawn" "_law_drawn" s_law_drawn a_law_drawn d_law_drawn
  g_law_drawn : mg "_law_drawn" = some (.ref a_law_drawn)
  a_law_order : Addr
  d_law_order : FuncData
  F_law_order : Fun K "_law_order" "_law_order" s_law_order a_law_order d_law_order
  g_law_order : mg "_law_order" = some (.ref a_law_order)
  a_law_strikes : Addr
  d_law_strikes : FuncData
  F_law_strikes : Fun K "_law_strikes" "_law_strikes" s_law_strikes a_law_strikes d_law_strikes
  g_law_strikes : mg "_law_strikes" = some (.ref a_law_strikes)
  a_law_due : Addr
  d_law_due : FuncData
  F_law_due : Fun K "_law_due" "_law_due" s_law_due a_law_due d_law_due
  g_law_due : mg "_law_due" = some (.ref a_law_due)
  a_law_is_told : Addr
  d_law_is_told : FuncData
  F_law_is_told : Fun K "_law_is_told" "_law_is_told" s_law_is_told a_law_is_told d_law_is_told
  g_law_is_told : mg "_law_is_told" = some (.ref a_law_is_told)
  a_law_apart : Addr
  d_law_apart : FuncData
  F_law_apart : Fun K "_law_apart" "_law_apart" s_law_apart a_law_apart d_law_apart
  g_law_apart : mg "_law_apart" = some (.ref a_law_apart)
  a_law : Addr
  d_law : FuncData
  F_law : Fun K "law" "law" s_law a_law d_law
  g_law : mg "law" = some (.ref a_law)
  C_Remainder : Addr
  nc_Remainder : PySem.W.nsIn K mainGlobals "Remainder" = some (some (.ref C_Remainder))
  g_Remainder : mg "Remainder" = some (.ref C_Remainder)
  cl_Remainder : L2.Cls K C_Remainder
  mk_Remainder : L2.Mk K C_Remainder a_Remainder___init__
  na_Remainder_left : NoAttr K C_Remainder "left"
  na_Remainder_over_counts : NoAttr K C_Remainder "over_counts"
  na_Remainder_overs : NoAttr K C_Remainder "overs"
  na_Remainder_under_counts : NoAttr K C_Remainder "under_counts"
  na_Remainder_unders : NoAttr K C_Remainder "unders"
  me_Remainder_find_partner : L2.Meth K C_Remainder "find_partner" a_Remainder_find_partner
  b_abs : mg "abs" = none
  b_bool : mg "bool" = none
  b_int : mg "int" = none
  b_isinstance : mg "isinstance" = none
  b_len : mg "len" = none
  b_list : mg "list" = none
  b_max : mg "max" = none
  b_range : mg "range" = none
  b_str : mg "str" = none
  b_tuple : mg "tuple" = none
section
variable {P : Program} {w : World} {K : PySem.W.Frag} {mg : Str → Option Value} {base : Heap}
theorem bi_Remainder___init__ (T : Txt K mg) : Binds K T.d_Remainder___init__ ["self", "order", "points"] [] := T.F_Remainder___init__.binds fun _ _ _ _ _ _ us hl => match us, hl with | [_, _, _], _ => rfl
theorem bi_Remainder_find_partner (T : Txt K mg) : Binds K T.d_Remainder_find_partner ["self", "x", "way"] [] := T.F_Remainder_find_partner.binds fun _ _ _ _ _ _ us hl => match us, hl with | [_, _, _], _ => rfl
theorem bi_strikes_of (T : Txt K mg) : Binds K T.d_strikes_of ["order", "points"] [] := T.F_strikes_of.binds fun _ _ _ _ _ _ us hl => match us, hl with | [_, _], _ => rfl
theorem kb_strikes_of_0 (T : Txt K mg) : KBn K T.d_strikes_of ["order", "points"] 0 ["points", "order"] (fun us ws => pick [1, 0] (us ++ ws ++ [])) (fun vs zs => pick [1, 0] (vs ++ zs ++ [])) := by
  obtain ⟨oc, od, kV, doc, pm, an, cdv, ct, osl, e, lk, hcd⟩ := T.F_strikes_of.ex
  refine ⟨fun s us ws X h1 h2 => ?_, fun r1 r2 => vals_pick ((r1.append r2).append .nil) _⟩
  rw [e]
  exact BindsTo.of_eq (match us, h1, ws, h2 with | [], _, [_, _], _ => rfl)
theorem bi_law_mixed (T : Txt K mg) : Binds K T.d_law_mixed ["number", "k"] [] := T.F_law_mixed.binds fun _ _ _ _ _ _ us hl => match us, hl with | [_, _], _ => rfl
theorem bi_law_start (T : Txt K mg) : Binds K T.d_law_start ["script"] [] := T.F_law_start.binds fun _ _ _ _ _ _ us hl => match us, hl with | [_], _ => rfl
theorem bi_law_take (T : Txt K mg) : Binds K T.d_law_take ["state", "limit"] [] := T.F_law_take.binds fun _ _ _ _ _ _ us hl => match us, hl with | [_, _], _ => rfl
theorem bi_law_same (T : Txt K mg) : Binds K T.d_law_same ["actual", "due"] [] := T.F_law_same.binds fun _ _ _ _ _ _ us hl => match us, hl with | [_, _], _ => rfl
theorem bi_law_mingled (T : Txt K mg) : Binds K T.d_law_mingled ["state", "n"] [] := T.F_law_mingled.binds fun _ _ _ _ _ _ us hl => match us, hl with | [_, _], _ => rfl
theorem bi_law_any (T : Txt K mg) : Binds K T.d_law_any ["state", "n"] [] := T.F_law_any.binds fun _ _ _ _ _ _ us hl => match us, hl with | [_, _], _ => rfl
theorem bi_law_levels (T : Txt K mg) : Binds K T.d_law_levels ["state"] [] := T.F_law_levels.binds fun _ _ _ _ _ _ us hl => match us, hl with | [_], _ => rfl
theorem bi_law_ring (T : Txt K mg) : Binds K T.d_law_ring ["k"] [] := T.F_law_ring.binds fun _ _ _ _ _ _ us hl => match us, hl with | [_], _ => rfl
theorem bi_law_grown (T : Txt K mg) : Binds K T.d_law_grown ["state", "up", "many", "ways"] [] := T.F_law_grown.binds fun _ _ _ _ _ _ us hl => match us, hl with | [_, _, _, _], _ => rfl
theorem bi_law_drawn (T : Txt K mg) : Binds K T.d_law_drawn ["state"] [] := T.F_law_drawn.binds fun _ _ _ _ _ _ us hl => match us, hl with | [_], _ => rfl
theorem bi_law_order (T : Txt K mg) : Binds K T.d_law_order ["up"] [] := T.F_law_order.binds fun _ _ _ _ _ _ us hl => match us, hl with | [_], _ => rfl
theorem bi_law_strikes (T : Txt K mg) : Binds K T.d_law_strikes ["up", "left"] [] := T.F_law_strikes.binds fun _ _ _ _ _ _ us hl => match us, hl with | [_, _], _ => rfl
theorem bi_law_due (T : Txt K mg) : Binds K T.d_law_due ["up", "left"] [] := T.F_law_due.binds fun _ _ _ _ _ _ us hl => match us, hl with | [_, _], _ => rfl
theorem bi_law_is_told (T : Txt K mg) : Binds K T.d_law_is_told ["order", "up", "left"] [] := T.F_law_is_told.binds fun _ _ _ _ _ _ us hl => match us, hl with | [_, _, _], _ => rfl
theorem bi_law_apart (T : Txt K mg) : Binds K T.d_law_apart ["state", "up"] [] := T.F_law_apart.binds fun _ _ _ _ _ _ us hl => match us, hl with | [_, _], _ => rfl
theorem bi_law (T : Txt K mg) : Binds K T.d_law ["script"] [] := T.F_law.binds fun _ _ _ _ _ _ us hl => match us, hl with | [_], _ => rfl
theorem ok_Remainder___init__ (T : Txt K mg) : FnOk P w K mg base CX0 1 T.a_Remainder___init__ T.d_Remainder___init__ ["self", "order", "points"] (spM K mg 3 f_Remainder___init__) := fn_mir T.F_Remainder___init__ sc_Remainder___init__ fun cdv A outer s H E hr =>
    (ss_cons (s_asg (em_var (pv 1)) (pg_tup rfl (pgs_cons (pg_name (i := 3) sc_Remainder___init__.nd rfl (by first | exact Or.inl rfl | exact Or.inr rfl)) (pgs_cons (pg_name (i := 4) sc_Remainder___init__.nd rfl (by first | exact Or.inl rfl | exact Or.inr rfl)) pgs_nil))) (tg_tup [3, 4]))
    (ss_cons (s_fld T.nc_Remainder T.cl_Remainder T.na_Remainder_left (em_var (pv 0)) (em_ref (lm_rep (em_fls (lm_lst (am_cons em_bl am_nil))) (em_var (pv 3)))))
    (ss_cons (s_pre (vs := [5]) (s_for PassesOwn.never rfl (im_seq (em_var (pv 2))) (pg_name (i := 5) sc_Remainder___init__.nd rfl (by first | exact Or.inl rfl | exact Or.inr rfl)) (tg_one 5) (ss_wip (vs := [5]) (ss_one (s_sub em_bl (em_fld T.nc_Remainder T.cl_Remainder T.na_Remainder_left (em_var (pv 0))) (em_var (pv 5)))))))
    (ss_cons (s_fld T.nc_Remainder T.cl_Remainder T.na_Remainder_unders (em_var (pv 0)) (em_ref (lm_lc (tc_one (by decide)) (pe_lc (own := [("_", 6)]) rfl sc_Remainder___init__.nd (im_rng1 (by rfl) T.b_range (am_cons (em_var (pv 3)) am_nil)) (blkOk_by (by kernel_rfl)) (fun _ _ _ _ _ => (pg_name (i := 6) sc_Remainder___init__.nd rfl (by first | exact Or.inl rfl | exact Or.inr rfl))) (fun _ _ _ _ _ => pts_y) (fun _ _ _ _ _ => (em_ref (lm_lst am_nil)))))))
    (ss_cons (s_fld T.nc_Remainder T.cl_Remainder T.na_Remainder_overs (em_var (pv 0)) (em_ref (lm_lc (tc_one (by decide)) (pe_lc (own := [("_", 6)]) rfl sc_Remainder___init__.nd (im_rng1 (by rfl) T.b_range (am_cons (em_var (pv 3)) am_nil)) (blkOk_by (by kernel_rfl)) (fun _ _ _ _ _ => (pg_name (i := 6) sc_Remainder___init__.nd rfl (by first | exact Or.inl rfl | exact Or.inr rfl))) (fun _ _ _ _ _ => pts_y) (fun _ _ _ _ _ => (em_ref (lm_lst am_nil)))))))
    (ss_cons (s_pre (vs := [7, 8]) (s_for PassesOwn.never rfl (im_seq (em_var (pv 4))) (pg_tup rfl (pgs_cons (pg_name (i := 7) sc_Remainder___init__.nd rfl (by first | exact Or.inl rfl | exact Or.inr rfl)) (pgs_cons (pg_name (i := 8) sc_Remainder___init__.nd rfl (by first | exact Or.inl rfl | exact Or.inr rfl)) pgs_nil))) (tg_tup [7, 8]) (ss_wip (vs := [7, 8]) (ss_one (s_if (bm_w (wm_and (bm_truth (em_ix ix_seq opm_ix (em_fld T.nc_Remainder T.cl_Remainder T.na_Remainder_left (em_var (pv 0))) (em_var (pv 7)) (fun _ _ => rfl)) fun _ => rfl) (wm_and1 (bm_truth (em_ix ix_seq opm_ix (em_fld T.nc_Remainder T.cl_Remainder T.na_Remainder_left (em_var (pv 0))) (em_var (pv 8)) (fun _ _ => rfl)) fun _ => rfl)))) (ss_cons (s_expr (em_mth mm_app (pe_bm PySem.F.plainAttrs_list PySem.F.slot_list_append PySem.F.type_list_append mt_append (em_ix ix_seq opm_ix (em_fld T.nc_Remainder T.cl_Remainder T.na_Remainder_unders (em_var (pv 0))) (em_var (pv 8)) (fun _ _ => rfl)) (am_cons (em_var (pv 7)) am_nil))))
    (ss_one (s_expr (em_mth mm_app (pe_bm PySem.F.plainAttrs_list PySem.F.slot_list_append PySem.F.type_list_append mt_append (em_ix ix_seq opm_ix (em_fld T.nc_Remainder T.cl_Remainder T.na_Remainder_overs (em_var (pv 0))) (em_var (pv 7)) (fun _ _ => rfl)) (am_cons (em_var (pv 8)) am_nil)))))) ss_nil)))))
    (ss_cons (s_fld T.nc_Remainder T.cl_Remainder T.na_Remainder_under_counts (em_var (pv 0)) (em_ref (lm_lc (tc_one (by decide)) (pe_lc (own := [("row", 9)]) rfl sc_Remainder___init__.nd (im_seq (em_fld T.nc_Remainder T.cl_Remainder T.na_Remainder_unders (em_var (pv 0)))) (blkOk_by (by kernel_rfl)) (fun _ _ _ _ _ => (pg_name (i := 9) sc_Remainder___init__.nd rfl (by first | exact Or.inl rfl | exact Or.inr rfl))) (fun _ _ _ _ _ => pts_y) (fun _ _ _ _ _ => (em_blt call_len cm_len (by rfl) T.b_len PySem.boot_len (am_cons (em_var (pv 9)) am_nil)))))))
    (ss_one (s_fld T.nc_Remainder T.cl_Remainder T.na_Remainder_over_counts (em_var (pv 0)) (em_ref (lm_lc (tc_one (by decide)) (pe_lc (own := [("row", 9)]) rfl sc_Remainder___init__.nd (im_seq (em_fld T.nc_Remainder T.cl_Remainder T.na_Remainder_overs (em_var (pv 0)))) (blkOk_by (by kernel_rfl)) (fun _ _ _ _ _ => (pg_name (i := 9) sc_Remainder___init__.nd rfl (by first | exact Or.inl rfl | exact Or.inr rfl))) (fun _ _ _ _ _ => pts_y) (fun _ _ _ _ _ => (em_blt call_len cm_len (by rfl) T.b_len PySem.boot_len (am_cons (em_var (pv 9)) am_nil)))))))))))))))
theorem ok_Remainder_find_partner (T : Txt K mg) : FnOk P w K mg base CX0 1 T.a_Remainder_find_partner T.d_Remainder_find_partner ["self", "x", "way"] (spM K mg 3 f_Remainder_find_partner) := fn_mir T.F_Remainder_find_partner sc_Remainder_find_partner fun cdv A outer s H E hr =>
    (ss_cons (s_if (bm_w (wm_or (bm_not (bm_chain op_le op_lt opm_le opm_lt em_int (em_var (pv 1)) (em_blt call_len cm_len (by rfl) T.b_len PySem.boot_len (am_cons (em_fld T.nc_Remainder T.cl_Remainder T.na_Remainder_left (em_var (pv 0))) am_nil)))) (wm_or1 (bm_not (bm_truth (em_ix ix_seq opm_ix (em_fld T.nc_Remainder T.cl_Remainder T.na_Remainder_left (em_var (pv 0))) (em_var (pv 1)) (fun _ _ => rfl)) fun _ => rfl))))) (ss_one (s_ret em_non)) ss_nil)
    (ss_cons (s_if (bm_cmp (op_eqA hr.units) opm_eq (em_var (pv 2)) em_str (nomark _)) (ss_one (s_par (i := 3) (j := 4) (by rfl) sc_Remainder_find_partner.nd rfl rfl (by decide) rfl rfl (am_cons (em_ix ix_seq opm_ix (em_fld T.nc_Remainder T.cl_Remainder T.na_Remainder_unders (em_var (pv 0))) (em_var (pv 1)) (fun _ _ => rfl)) (am_cons (em_fld T.nc_Remainder T.cl_Remainder T.na_Remainder_under_counts (em_var (pv 0))) am_nil)) (by rfl))) (ss_one (s_par (i := 3) (j := 4) (by rfl) sc_Remainder_find_partner.nd rfl rfl (by decide) rfl rfl (am_cons (em_ix ix_seq opm_ix (em_fld T.nc_Remainder T.cl_Remainder T.na_Remainder_overs (em_var (pv 0))) (em_var (pv 1)) (fun _ _ => rfl)) (am_cons (em_fld T.nc_Remainder T.cl_Remainder T.na_Remainder_over_counts (em_var (pv 0))) am_nil)) (by rfl))))
    (ss_cons (s_pre (vs := [5]) (s_for PassesOwn.never rfl (im_seq (em_var (pv 3))) (pg_name (i := 5) sc_Remainder_find_partner.nd rfl (by first | exact Or.inl rfl | exact Or.inr rfl)) (tg_one 5) (ss_wip (vs := [5]) (ss_one (s_if (bm_w (wm_and (bm_truth (em_ix ix_seq opm_ix (em_fld T.nc_Remainder T.cl_Remainder T.na_Remainder_left (em_var (pv 0))) (em_var (pv 5)) (fun _ _ => rfl)) fun _ => rfl) (wm_and1 (bm_cmp (op_eqA hr.units) opm_eq (em_ix ix_seq opm_ix (em_var (pv 4)) (em_var (pv 5)) (fun _ _ => rfl)) (em_op op_sub opm_sub (em_ix ix_seq opm_ix (em_var (pv 4)) (em_var (pv 1)) (fun _ _ => rfl)) em_int) (nomark _))))) (ss_one (s_ret (em_var (pv 5)))) ss_nil)))))
    (ss_one (s_ret em_non)))))
theorem ok_strikes_of (T : Txt K mg) : FnOk P w K mg base CX0 3 T.a_strikes_of T.d_strikes_of ["order", "points"] (spM K mg 2 f_strikes_of) := (fn_mir (k := 2) (m := m_strikes_of) T.F_strikes_of sc_strikes_of fun cdv A outer s H E hr =>
    (ss_cons (s_set (i := 2) sc_strikes_of.nd rfl (Or.inr rfl) (em_make T.nc_Remainder T.mk_Remainder (ok_Remainder___init__ T) n_Remainder___init__ (hr.mono (by decide)) (by rfl) T.g_Remainder (bi_Remainder___init__ T) .nil (fun _ => .nil) (am_cons (em_var (pv 0)) (am_cons (em_var (pv 1)) am_nil))))
    (ss_one (s_ret (em_bty call_tuple_of cm_tup (by rfl) T.b_tuple PyProof.Rows.boot_tuple (am_cons (em_frz (em_lc2 (tc_one (by decide)) (tc_one (by decide)) (pe_lc2 (own := [("x", 3), ("way", 4)]) (vs1 := [4]) rfl sc_strikes_of.nd (im_seq (em_var (pv 1))) (blkOk_by (by kernel_rfl)) (by decide) (fun _ _ _ _ _ => (pg_name (i := 3) sc_strikes_of.nd rfl (by first | exact Or.inl rfl | exact Or.inr rfl))) (fun _ _ _ _ _ => pts_y) (fun _ _ _ _ _ => (im_seq (em_tup (am_cons em_str (am_cons em_str am_nil))))) (fun _ _ _ _ _ => (pg_name (i := 4) sc_strikes_of.nd rfl (by first | exact Or.inl rfl | exact Or.inr rfl))) (fun _ _ _ _ _ => (pts_M (bm_cmp op_notN opm_notn (em_meth T.nc_Remainder T.cl_Remainder T.me_Remainder_find_partner (ok_Remainder_find_partner T) n_Remainder_find_partner (hr.mono (by decide)) (bi_Remainder_find_partner T) .nil (fun _ => .nil) (em_var (pv 2)) (am_cons (em_var (pv 3)) (am_cons (em_var (pv 4)) am_nil))) em_non (nomark _)))) (fun _ _ _ _ _ => (em_tup (am_cons (em_var (pv 3)) (am_cons (em_var (pv 4)) am_nil))))))) am_nil)))))).imp cut_sp
theorem ok_law_mixed (T : Txt K mg) : FnOk P w K mg base CX0 1 T.a_law_mixed T.d_law_mixed ["number", "k"] (spM K mg 2 f_law_mixed) := fn_mir T.F_law_mixed sc_law_mixed fun cdv A outer s H E hr =>
    (ss_cons (s_set (i := 2) sc_law_mixed.nd rfl (Or.inl rfl) (em_op op_mod opm_mod (em_bty call_int1 cm_int (by rfl) T.b_int PyProof.Rows.boot_int (am_cons (em_op op_addA opm_add (em_op op_addA opm_add (em_op op_mul opm_mul (em_var (pv 0)) em_int) (em_op op_mul opm_mul (em_var (pv 1)) em_int)) em_int) am_nil)) em_int))
    (ss_cons (s_set (i := 3) sc_law_mixed.nd rfl (Or.inl rfl) (em_op op_mod opm_mod (em_bty call_int1 cm_int (by rfl) T.b_int PyProof.Rows.boot_int (am_cons (em_op op_addA opm_add (em_op op_addA opm_add (em_op op_mul opm_mul (em_var (pv 2)) (em_op op_addA opm_add (em_op op_addA opm_add (em_var (pv 2)) (em_op op_mul opm_mul em_int (em_var (pv 1)))) em_int)) (em_op op_mul opm_mul (em_var (pv 1)) em_int)) em_int) am_nil)) em_int))
    (ss_one (s_ret (em_op op_mod opm_mod (em_bty call_int1 cm_int (by rfl) T.b_int PyProof.Rows.boot_int (am_cons (em_op op_addA opm_add (em_op op_mul opm_mul (em_var (pv 3)) em_int) (em_var (pv 2))) am_nil)) em_int)))))
theorem ok_law_start (T : Txt K mg) : FnOk P w K mg base CX0 2 T.a_law_start T.d_law_start ["script"] (spM K mg 1 f_law_start) := fn_mir T.F_law_start sc_law_start fun cdv A outer s H E hr =>
    (ss_cons (s_set (i := 1) sc_law_start.nd rfl (Or.inl rfl) (em_blt call_len cm_len (by rfl) T.b_len PySem.boot_len (am_cons (em_var (pv 0)) am_nil)))
    (ss_cons (s_pre (vs := [2]) (s_for PassesOwn.never rfl (im_seq (em_var (pv 0))) (pg_name (i := 2) sc_law_start.nd rfl (by first | exact Or.inl rfl | exact Or.inr rfl)) (tg_one 2) (ss_wip (vs := [2]) (ss_one (s_set (i := 1) sc_law_start.nd rfl (Or.inl rfl) (em_call (ok_law_mixed T) n_law_mixed (hr.mono (by decide)) (by rfl) T.g_law_mixed T.F_law_mixed.kp (bi_law_mixed T) .nil (fun _ => .nil) (am_cons (em_op op_addA opm_add (em_var (pv 1)) (em_var (pv 2))) (am_cons em_int am_nil))))))))
    (ss_one (s_ret (em_ref (lm_lst (am_cons em_int (am_cons em_int (am_cons em_int (am_cons (em_var (pv 1)) (am_cons (em_fls (lm_bty call_list_of cl_lst (by rfl) T.b_list PyProof.Rows.boot_list (am_cons (em_var (pv 0)) am_nil))) (am_cons em_int am_nil))))))))))))
theorem ok_law_take (T : Txt K mg) : FnOk P w K mg base CX0 2 T.a_law_take T.d_law_take ["state", "limit"] (spM K mg 2 f_law_take) := fn_mir T.F_law_take sc_law_take fun cdv A outer s H E hr =>
    (ss_cons (s_set (i := 2) sc_law_take.nd rfl (Or.inl rfl) (em_ix ix_seq opm_ix (em_var (pv 0)) em_int (fun _ _ => rfl)))
    (ss_cons (s_sub (em_op op_addA opm_add (em_ix ix_seq opm_ix (em_var (pv 0)) em_int (fun _ _ => rfl)) em_int) (em_var (pv 0)) em_int)
    (ss_cons (s_if (bm_cmp (op_eqA hr.units) opm_eq (em_ix ix_seq opm_ix (em_var (pv 0)) em_int (fun _ _ => rfl)) em_int (nomark _)) (ss_cons (s_if (bm_cmp (op_eqA hr.units) opm_eq (em_ix ix_seq opm_ix (em_var (pv 0)) em_int (fun _ _ => rfl)) (em_blt call_len cm_len (by rfl) T.b_len PySem.boot_len (am_cons (em_var (pv 2)) am_nil)) (nomark _)) (ss_one (s_ret (em_op op_mod opm_mod (em_call (ok_law_mixed T) n_law_mixed (hr.mono (by decide)) (by rfl) T.g_law_mixed T.F_law_mixed.kp (bi_law_mixed T) .nil (fun _ => .nil) (am_cons (em_ix ix_seq opm_ix (em_var (pv 0)) em_int (fun _ _ => rfl)) (am_cons (em_ix ix_seq opm_ix (em_var (pv 0)) em_int (fun _ _ => rfl)) am_nil))) (em_var (pv 1))))) ss_nil)
    (ss_cons (s_set (i := 3) sc_law_take.nd rfl (Or.inl rfl) (em_ix ix_seq opm_ix (em_var (pv 2)) (em_ix ix_seq opm_ix (em_var (pv 0)) em_int (fun _ _ => rfl)) (fun _ _ => rfl)))
    (ss_cons (s_sub (em_op op_addA opm_add (em_ix ix_seq opm_ix (em_var (pv 0)) em_int (fun _ _ => rfl)) em_int) (em_var (pv 0)) em_int)
    (ss_cons (s_if (bm_cmp (op_eqA hr.units) opm_eq (em_op op_mod opm_mod (em_bty call_int1 cm_int (by rfl) T.b_int PyProof.Rows.boot_int (am_cons (em_var (pv 3)) am_nil)) em_int) em_int (nomark _)) (ss_one (s_ret (em_op op_mod opm_mod (em_call (ok_law_mixed T) n_law_mixed (hr.mono (by decide)) (by rfl) T.g_law_mixed T.F_law_mixed.kp (bi_law_mixed T) .nil (fun _ => .nil) (am_cons (em_var (pv 3)) (am_cons (em_ix ix_seq opm_ix (em_var (pv 0)) em_int (fun _ _ => rfl)) am_nil))) (em_var (pv 1))))) ss_nil)
    (ss_cons (s_sub (em_op op_fdiv opm_div (em_blt call_abs cm_abs (by rfl) T.b_abs PyProof.Rows.boot_abs (am_cons (em_var (pv 3)) am_nil)) em_int) (em_var (pv 0)) em_int)
    (ss_one (s_sub em_int (em_var (pv 0)) em_int))))))) ss_nil)
    (ss_cons (s_set (i := 4) sc_law_take.nd rfl (Or.inl rfl) (em_op op_mod opm_mod (em_bty call_int1 cm_int (by rfl) T.b_int PyProof.Rows.boot_int (am_cons (em_ix ix_seq opm_ix (em_var (pv 0)) em_int (fun _ _ => rfl)) am_nil)) (em_var (pv 1))))
    (ss_cons (s_sub (em_op op_sub opm_sub (em_ix ix_seq opm_ix (em_var (pv 0)) em_int (fun _ _ => rfl)) em_int) (em_var (pv 0)) em_int)
    (ss_cons (s_sub (em_op op_mul opm_mul (em_op op_fdiv opm_div (em_ix ix_seq opm_ix (em_var (pv 0)) em_int (fun _ _ => rfl)) (em_var (pv 1))) (em_bty call_int1 cm_int (by rfl) T.b_int PyProof.Rows.boot_int (am_cons (em_cmp op_gt opm_gt (em_ix ix_seq opm_ix (em_var (pv 0)) em_int (fun _ _ => rfl)) em_int (nomark _)) am_nil))) (em_var (pv 0)) em_int)
    (ss_one (s_ret (em_var (pv 4))))))))))
theorem okr_law_same (T : Txt K mg) : ∀ j : Nat, FnOk P w K mg base CX0 (1 + j) T.a_law_same T.d_law_same ["actual", "due"] (spM K mg 2 (fr_law_same j))
  | 0 => by
    refine ⟨fun vs H Q E h => ?_, fun A outer s H args us vs Q E hr e0 hb r h => ?_⟩
    · obtain ⟨W, h, xs, _, _, _, _, p⟩ := h
      exact p.elim
    · obtain ⟨W, h, xs, _, _, _, _, p⟩ := h
      exact p.elim
  | j + 1 => by
    have ih := okr_law_same T j
    have hn := nr_law_same j
    refine fn_mir (k := 1 + j) T.F_law_same sc_law_same fun cdv A outer s H E hr => ?_
    exact (ss_cons (s_if (bm_cmp op_isN opm_isn (em_var (pv 1)) em_non (nomark _)) (ss_one (s_ret (em_cmp op_isN opm_isn (em_var (pv 0)) em_non (nomark _)))) ss_nil)
    (ss_cons (s_if (bm_truth (em_isi .bool (by decide) (by rfl) T.b_isinstance (pe_bltn (by rfl) T.b_bool (by decide +kernel) rfl) (em_var (pv 1))) fun _ => rfl) (ss_one (s_ret (em_and (em_isi .bool (by decide) (by rfl) T.b_isinstance (pe_bltn (by rfl) T.b_bool (by decide +kernel) rfl) (em_var (pv 0))) (em_one (em_cmp (op_eqA hr.units) opm_eq (em_var (pv 0)) (em_var (pv 1)) (nomark _)))))) ss_nil)
    (ss_cons (s_if (bm_truth (em_isi .int (by decide) (by rfl) T.b_isinstance (pe_bltn (by rfl) T.b_int PyProof.Rows.boot_int rfl) (em_var (pv 1))) fun _ => rfl) (ss_one (s_ret (em_and (em_isi .int (by decide) (by rfl) T.b_isinstance (pe_bltn (by rfl) T.b_int PyProof.Rows.boot_int rfl) (em_var (pv 0))) (em_and (em_not (em_isi .bool (by decide) (by rfl) T.b_isinstance (pe_bltn (by rfl) T.b_bool (by decide +kernel) rfl) (em_var (pv 0)))) (em_one (em_cmp (op_eqA hr.units) opm_eq (em_var (pv 0)) (em_var (pv 1)) (nomark _))))))) ss_nil)
    (ss_cons (s_if (bm_truth (em_isi .str (by decide) (by rfl) T.b_isinstance (pe_bltn (by rfl) T.b_str PyProof.Rows.boot_str rfl) (em_var (pv 1))) fun _ => rfl) (ss_one (s_ret (em_and (em_isi .str (by decide) (by rfl) T.b_isinstance (pe_bltn (by rfl) T.b_str PyProof.Rows.boot_str rfl) (em_var (pv 0))) (em_one (em_cmp (op_eqA hr.units) opm_eq (em_var (pv 0)) (em_var (pv 1)) (nomark _)))))) ss_nil)
    (ss_cons (s_if (bm_w (wm_or (bm_cmp (op_neA hr.units) opm_ne (em_isi .list (by decide) (by rfl) T.b_isinstance (pe_bltn (by rfl) T.b_list PyProof.Rows.boot_list rfl) (em_var (pv 1))) (em_isi .list (by decide) (by rfl) T.b_isinstance (pe_bltn (by rfl) T.b_list PyProof.Rows.boot_list rfl) (em_var (pv 0))) (nomark _)) (wm_or1 (bm_cmp (op_neA hr.units) opm_ne (em_isi .tuple (by decide) (by rfl) T.b_isinstance (pe_bltn (by rfl) T.b_tuple PyProof.Rows.boot_tuple rfl) (em_var (pv 1))) (em_isi .tuple (by decide) (by rfl) T.b_isinstance (pe_bltn (by rfl) T.b_tuple PyProof.Rows.boot_tuple rfl) (em_var (pv 0))) (nomark _))))) (ss_one (s_ret em_bl)) ss_nil)
    (ss_cons (s_if (bm_cmp (op_neA hr.units) opm_ne (em_blt call_len cm_len (by rfl) T.b_len PySem.boot_len (am_cons (em_var (pv 0)) am_nil)) (em_blt call_len cm_len (by rfl) T.b_len PySem.boot_len (am_cons (em_var (pv 1)) am_nil)) (nomark _)) (ss_one (s_ret em_bl)) ss_nil)
    (ss_cons (s_pre (vs := [2]) (s_for PassesOwn.never rfl (im_rng1 (by rfl) T.b_range (am_cons (em_blt call_len cm_len (by rfl) T.b_len PySem.boot_len (am_cons (em_var (pv 1)) am_nil)) am_nil)) (pg_name (i := 2) sc_law_same.nd rfl (by first | exact Or.inl rfl | exact Or.inr rfl)) (tg_one 2) (ss_wip (vs := [2]) (ss_one (s_if (bm_not (bm_truth (em_call (ih) (hn) (hr.mono (by omega)) (by rfl) T.g_law_same T.F_law_same.kp (bi_law_same T) .nil (fun _ => .nil) (am_cons (em_ix ix_seq opm_ix (em_var (pv 0)) (em_var (pv 2)) (fun _ _ => rfl)) (am_cons (em_ix ix_seq opm_ix (em_var (pv 1)) (em_var (pv 2)) (fun _ _ => rfl)) am_nil))) fun _ => rfl)) (ss_one (s_ret em_bl)) ss_nil)))))
    (ss_one (s_ret em_bl)))))))))
theorem ok_law_same (T : Txt K mg) : FnOk P w K mg base CX0 7 T.a_law_same T.d_law_same ["actual", "due"] (spM K mg 2 f_law_same) := okr_law_same T 6
theorem ok_law_mingled (T : Txt K mg) : FnOk P w K mg base CX0 3 T.a_law_mingled T.d_law_mingled ["state", "n"] (spM K mg 2 f_law_mingled) := (fn_mir (k := 2) (m := m_law_mingled) T.F_law_mingled sc_law_mingled fun cdv A outer s H E hr =>
    (ss_cons (s_set (i := 2) sc_law_mingled.nd rfl (Or.inr rfl) (em_ref (lm_rg rfl (by rfl) T.b_list (by rfl) T.b_range (em_var (pv 1)))))
    (ss_one (s_ret (em_fls (lm_lc (tc_one (by decide)) (pe_lc (own := [("k", 3)]) rfl sc_law_mingled.nd (im_rng1 (by rfl) T.b_range (am_cons (em_var (pv 1)) am_nil)) (blkOk_by (by kernel_rfl)) (fun _ _ _ _ _ => (pg_name (i := 3) sc_law_mingled.nd rfl (by first | exact Or.inl rfl | exact Or.inr rfl))) (fun _ _ _ _ _ => pts_y) (fun _ _ _ _ _ => (em_mth mm_popAt (pe_bm PySem.F.plainAttrs_list PySem.F.slot_list_pop PySem.F.type_list_pop mt_popAt (em_var (pv 2)) (am_cons (em_call (ok_law_take T) n_law_take (hr.mono (by decide)) (by rfl) T.g_law_take T.F_law_take.kp (bi_law_take T) .nil (fun _ => .nil) (am_cons (em_var (pv 0)) (am_cons (em_blt call_len cm_len (by rfl) T.b_len PySem.boot_len (am_cons (em_var (pv 2)) am_nil)) am_nil))) am_nil))))))))))).imp cut_sp
theorem ok_law_any (T : Txt K mg) : FnOk P w K mg base CX0 4 T.a_law_any T.d_law_any ["state", "n"] (spM K mg 2 f_law_any) := (fn_mir (k := 3) (m := m_law_any) T.F_law_any sc_law_any fun cdv A outer s H E hr =>
    (ss_cons (s_set (i := 2) sc_law_any.nd rfl (Or.inl rfl) (em_call (ok_law_mingled T) n_law_mingled (hr.mono (by decide)) (by rfl) T.g_law_mingled T.F_law_mingled.kp (bi_law_mingled T) .nil (fun _ => .nil) (am_cons (em_var (pv 0)) (am_cons (em_var (pv 1)) am_nil))))
    (ss_cons (s_lcR (tc_one (by decide)) (ps_setLc (i := 3) (own := [("x", 4)]) rfl sc_law_any.nd rfl rfl (sw_true rfl rfl rfl (by decide +kernel)) (im_rng1 (by rfl) T.b_range (am_cons (em_var (pv 1)) am_nil)) (blkOk_by (by kernel_rfl)) (fun _ _ _ _ _ => (pg_name (i := 4) sc_law_any.nd rfl (by first | exact Or.inl rfl | exact Or.inr rfl))) (fun _ _ _ _ _ => pts_y) (fun _ _ _ _ _ => (em_ref (lm_rep (em_fls (lm_lst (am_cons em_bl am_nil))) (em_var (pv 1)))))))
    (ss_cons (s_set (i := 5) sc_law_any.nd rfl (Or.inl rfl) (em_ix ix_seq opm_ix (em_fls (lm_lst (am_cons em_int (am_cons em_int (am_cons em_int (am_cons em_int am_nil)))))) (em_call (ok_law_take T) n_law_take (hr.mono (by decide)) (by rfl) T.g_law_take T.F_law_take.kp (bi_law_take T) .nil (fun _ => .nil) (am_cons (em_var (pv 0)) (am_cons em_int am_nil))) (fun _ _ => rfl)))
    (ss_cons (s_pre (vs := [6, 7, 8, 9]) (s_for PassesOwn.never rfl (im_rng3 (by rfl) T.b_range (am_cons (em_op op_sub opm_sub (em_var (pv 1)) em_int) (am_cons (em_un un_neg unm_neg em_int) (am_cons (em_un un_neg unm_neg em_int) am_nil)))) (pg_name (i := 6) sc_law_any.nd rfl (by first | exact Or.inl rfl | exact Or.inr rfl)) (tg_one 6) (ss_wip (vs := [6, 7, 8, 9]) (ss_cons (s_set (i := 7) sc_law_any.nd rfl (Or.inl rfl) (em_ix ix_seq opm_ix (em_var (pv 3)) (em_ix ix_seq opm_ix (em_var (pv 2)) (em_var (pv 6)) (fun _ _ => rfl)) (fun _ _ => rfl)))
    (ss_one (s_pre (vs := [8, 9]) (s_for PassesOwn.never rfl (im_rng2 (by rfl) T.b_range (am_cons (em_op op_addA opm_add (em_var (pv 6)) em_int) (am_cons (em_var (pv 1)) am_nil))) (pg_name (i := 8) sc_law_any.nd rfl (by first | exact Or.inl rfl | exact Or.inr rfl)) (tg_one 8) (ss_wip (vs := [8, 9]) (ss_one (s_if (bm_cmp (op_eqA hr.units) opm_eq (em_call (ok_law_take T) n_law_take (hr.mono (by decide)) (by rfl) T.g_law_take T.F_law_take.kp (bi_law_take T) .nil (fun _ => .nil) (am_cons (em_var (pv 0)) (am_cons (em_var (pv 5)) am_nil))) em_int (nomark _)) (ss_cons (s_sub em_bl (em_var (pv 7)) (em_ix ix_seq opm_ix (em_var (pv 2)) (em_var (pv 8)) (fun _ _ => rfl)))
    (ss_one (s_pre (vs := [9]) (s_for PassesOwn.never rfl (im_rng1 (by rfl) T.b_range (am_cons (em_var (pv 1)) am_nil)) (pg_name (i := 9) sc_law_any.nd rfl (by first | exact Or.inl rfl | exact Or.inr rfl)) (tg_one 9) (ss_wip (vs := [9]) (ss_one (s_sub (em_or (em_ix ix_seq opm_ix (em_var (pv 7)) (em_var (pv 9)) (fun _ _ => rfl)) (em_one (em_ix ix_seq opm_ix (em_ix ix_seq opm_ix (em_var (pv 3)) (em_ix ix_seq opm_ix (em_var (pv 2)) (em_var (pv 8)) (fun _ _ => rfl)) (fun _ _ => rfl)) (em_var (pv 9)) (fun _ _ => rfl)))) (em_var (pv 7)) (em_var (pv 9))))))))) ss_nil))))))))))
    (ss_one (s_ret (em_frz (em_var (pv 3)))))))))).imp cut_sp
theorem ok_law_levels (T : Txt K mg) : FnOk P w K mg base CX0 3 T.a_law_levels T.d_law_levels ["state"] (spM K mg 1 f_law_levels) := fn_mir T.F_law_levels sc_law_levels fun cdv A outer s H E hr =>
    (ss_cons (s_set (i := 1) sc_law_levels.nd rfl (Or.inr rfl) (em_fls (lm_lst am_nil)))
    (ss_cons (s_pre (vs := [2]) (s_for PassesOwn.never rfl (im_rng1 (by rfl) T.b_range (am_cons (em_op op_addA opm_add em_int (em_call (ok_law_take T) n_law_take (hr.mono (by decide)) (by rfl) T.g_law_take T.F_law_take.kp (bi_law_take T) .nil (fun _ => .nil) (am_cons (em_var (pv 0)) (am_cons em_int am_nil)))) am_nil)) (pg_name (i := 2) sc_law_levels.nd rfl (by first | exact Or.inl rfl | exact Or.inr rfl)) (tg_one 2) (ss_wip (vs := [2]) (ss_one (s_set (i := 1) sc_law_levels.nd rfl (Or.inr rfl) (em_fls (lm_cat (em_var (pv 1)) (em_fls (lm_rep (em_fls (lm_lst (am_cons (em_var (pv 2)) am_nil))) (em_ix ix_seq opm_ix (em_fls (lm_lst (am_cons em_int (am_cons em_int (am_cons em_int (am_cons em_int am_nil)))))) (em_call (ok_law_take T) n_law_take (hr.mono (by decide)) (by rfl) T.g_law_take T.F_law_take.kp (bi_law_take T) .nil (fun _ => .nil) (am_cons (em_var (pv 0)) (am_cons em_int am_nil))) (fun _ _ => rfl)))))))))))
    (ss_one (s_ret (em_fls (lm_lc (tc_one (by decide)) (pe_lc (own := [("low", 4)]) rfl sc_law_levels.nd (im_seq (em_var (pv 1))) (blkOk_by (by kernel_rfl)) (fun _ _ _ _ _ => (pg_name (i := 4) sc_law_levels.nd rfl (by first | exact Or.inl rfl | exact Or.inr rfl))) (fun _ _ _ _ _ => pts_y) (fun _ _ _ _ _ => (em_fls (lm_lc (tc_one (by decide)) (pe_lc (own := [("high", 3)]) rfl sc_law_levels.nd (im_seq (em_var (pv 1))) (blkOk_by (by kernel_rfl)) (fun _ _ _ _ _ => (pg_name (i := 3) sc_law_levels.nd rfl (by first | exact Or.inl rfl | exact Or.inr rfl))) (fun _ _ _ _ _ => pts_y) (fun _ _ _ _ _ => (em_cmp op_lt opm_lt (em_var (pv 4)) (em_var (pv 3)) (nomark _))))))))))))))
theorem ok_law_ring (T : Txt K mg) : FnOk P w K mg base CX0 1 T.a_law_ring T.d_law_ring ["k"] (spM K mg 1 f_law_ring) := (fn_mir (k := 0) (m := m_law_ring) T.F_law_ring sc_law_ring fun cdv A outer s H E hr =>
    (ss_cons (s_lcR (tc_one (by decide)) (ps_setLc (i := 1) (own := [("x", 2)]) rfl sc_law_ring.nd rfl rfl (sw_true rfl rfl rfl (by decide +kernel)) (im_rng1 (by rfl) T.b_range (am_cons (em_op op_mul opm_mul em_int (em_var (pv 0))) am_nil)) (blkOk_by (by kernel_rfl)) (fun _ _ _ _ _ => (pg_name (i := 2) sc_law_ring.nd rfl (by first | exact Or.inl rfl | exact Or.inr rfl))) (fun _ _ _ _ _ => pts_y) (fun _ _ _ _ _ => (em_ref (lm_rep (em_fls (lm_lst (am_cons em_bl am_nil))) (em_op op_mul opm_mul em_int (em_var (pv 0))))))))
    (ss_cons (s_pre (vs := [3, 4, 5]) (s_for PassesOwn.never rfl (im_rng1 (by rfl) T.b_range (am_cons (em_var (pv 0)) am_nil)) (pg_name (i := 3) sc_law_ring.nd rfl (by first | exact Or.inl rfl | exact Or.inr rfl)) (tg_one 3) (ss_wip (vs := [3, 4, 5]) (ss_one (s_pre (vs := [4, 5]) (s_for PassesOwn.never rfl (im_seq (em_tup (am_cons (em_var (pv 3)) (am_cons (em_op op_mod opm_mod (em_bty call_int1 cm_int (by rfl) T.b_int PyProof.Rows.boot_int (am_cons (em_op op_addA opm_add (em_var (pv 3)) em_int) am_nil)) (em_var (pv 0))) am_nil)))) (pg_name (i := 4) sc_law_ring.nd rfl (by first | exact Or.inl rfl | exact Or.inr rfl)) (tg_one 4) (ss_wip (vs := [4, 5]) (ss_cons (s_set (i := 5) sc_law_ring.nd rfl (Or.inl rfl) (em_ix ix_seq opm_ix (em_var (pv 1)) (em_var (pv 4)) (fun _ _ => rfl)))
    (ss_one (s_sub em_bl (em_var (pv 5)) (em_op op_addA opm_add (em_var (pv 0)) (em_var (pv 3)))))))))))))
    (ss_one (s_ret (em_frz (em_var (pv 1)))))))).imp cut_sp
theorem ok_law_grown (T : Txt K mg) : FnOk P w K mg base CX0 3 T.a_law_grown T.d_law_grown ["state", "up", "many", "ways"] (spM K mg 4 f_law_grown) := fn_mir T.F_law_grown sc_law_grown fun cdv A outer s H E hr =>
    (ss_cons (s_pre (vs := [4, 5, 6, 7, 8, 10]) (s_for PassesOwn.never rfl (im_rng1 (by rfl) T.b_range (am_cons (em_var (pv 2)) am_nil)) (pg_name (i := 4) sc_law_grown.nd rfl (by first | exact Or.inl rfl | exact Or.inr rfl)) (tg_one 4) (ss_wip (vs := [4, 5, 6, 7, 8, 10]) (ss_cons (s_set (i := 5) sc_law_grown.nd rfl (Or.inl rfl) (em_blt call_len cm_len (by rfl) T.b_len PySem.boot_len (am_cons (em_var (pv 1)) am_nil)))
    (ss_cons (s_set (i := 6) sc_law_grown.nd rfl (Or.inr rfl) (em_call (ok_law_take T) n_law_take (hr.mono (by decide)) (by rfl) T.g_law_take T.F_law_take.kp (bi_law_take T) .nil (fun _ => .nil) (am_cons (em_var (pv 0)) (am_cons (em_blt (call_max2 rfl) cm_max2 (by rfl) T.b_max PyProof.Rows.boot_max (am_cons em_int (am_cons (em_var (pv 5)) am_nil))) am_nil))))
    (ss_cons (s_set (i := 7) sc_law_grown.nd rfl (Or.inr rfl) (em_fls (lm_rep (em_fls (lm_lst (am_cons em_bl am_nil))) (em_var (pv 5)))))
    (ss_cons (s_set (i := 8) sc_law_grown.nd rfl (Or.inr rfl) (em_fls (lm_rep (em_fls (lm_lst (am_cons em_bl am_nil))) (em_var (pv 5)))))
    (ss_cons (s_expr (em_mth mm_app (pe_bm PySem.F.plainAttrs_list PySem.F.slot_list_append PySem.F.type_list_append mt_append (em_var (pv 3)) (am_cons em_str am_nil))))
    (ss_cons (s_if (bm_w (wm_and (bm_cmp op_gt opm_gt (em_var (pv 5)) em_int (nomark _)) (wm_and1 (bm_cmp (op_eqA hr.units) opm_eq (em_call (ok_law_take T) n_law_take (hr.mono (by decide)) (by rfl) T.g_law_take T.F_law_take.kp (bi_law_take T) .nil (fun _ => .nil) (am_cons (em_var (pv 0)) (am_cons em_int am_nil))) em_int (nomark _))))) (ss_cons (s_sub em_str (em_var (pv 3)) (em_un un_neg unm_neg em_int))
    (ss_cons (s_set (i := 7) sc_law_grown.nd rfl (Or.inr rfl) (em_fls (lm_lc (tc_one (by decide)) (pe_lc (own := [("x", 9)]) rfl sc_law_grown.nd (im_rng1 (by rfl) T.b_range (am_cons (em_var (pv 5)) am_nil)) (blkOk_by (by kernel_rfl)) (fun _ _ _ _ _ => (pg_name (i := 9) sc_law_grown.nd rfl (by first | exact Or.inl rfl | exact Or.inr rfl))) (fun _ _ _ _ _ => pts_y) (fun _ _ _ _ _ => (em_or (em_cmp (op_eqA hr.units) opm_eq (em_var (pv 9)) (em_var (pv 6)) (nomark _)) (em_one (em_ix ix_seq opm_ix (em_ix ix_seq opm_ix (em_var (pv 1)) (em_var (pv 9)) (fun _ _ => rfl)) (em_var (pv 6)) (fun _ _ => rfl)))))))))
    (ss_one (s_pre (vs := [10]) (s_for PassesOwn.never rfl (im_rng1 (by rfl) T.b_range (am_cons (em_var (pv 5)) am_nil)) (pg_name (i := 10) sc_law_grown.nd rfl (by first | exact Or.inl rfl | exact Or.inr rfl)) (tg_one 10) (ss_wip (vs := [10]) (ss_one (s_if (bm_w (wm_and (bm_truth (em_ix ix_seq opm_ix (em_ix ix_seq opm_ix (em_var (pv 1)) (em_var (pv 6)) (fun _ _ => rfl)) (em_var (pv 10)) (fun _ _ => rfl)) fun _ => rfl) (wm_and1 (bm_cmp (op_eqA hr.units) opm_eq (em_call (ok_law_take T) n_law_take (hr.mono (by decide)) (by rfl) T.g_law_take T.F_law_take.kp (bi_law_take T) .nil (fun _ => .nil) (am_cons (em_var (pv 0)) (am_cons em_int am_nil))) em_int (nomark _))))) (ss_one (s_set (i := 8) sc_law_grown.nd rfl (Or.inr rfl) (em_fls (lm_lc (tc_one (by decide)) (pe_lc (own := [("z", 11)]) rfl sc_law_grown.nd (im_rng1 (by rfl) T.b_range (am_cons (em_var (pv 5)) am_nil)) (blkOk_by (by kernel_rfl)) (fun _ _ _ _ _ => (pg_name (i := 11) sc_law_grown.nd rfl (by first | exact Or.inl rfl | exact Or.inr rfl))) (fun _ _ _ _ _ => pts_y) (fun _ _ _ _ _ => (em_or (em_ix ix_seq opm_ix (em_var (pv 8)) (em_var (pv 11)) (fun _ _ => rfl)) (em_or (em_cmp (op_eqA hr.units) opm_eq (em_var (pv 11)) (em_var (pv 10)) (nomark _)) (em_one (em_ix ix_seq opm_ix (em_ix ix_seq opm_ix (em_var (pv 1)) (em_var (pv 10)) (fun _ _ => rfl)) (em_var (pv 11)) (fun _ _ => rfl))))))))))) ss_nil)))))))) (ss_one (s_if (bm_cmp op_gt opm_gt (em_var (pv 5)) em_int (nomark _)) (ss_cons (s_sub em_str (em_var (pv 3)) (em_un un_neg unm_neg em_int))
    (ss_cons (s_set (i := 8) sc_law_grown.nd rfl (Or.inr rfl) (em_fls (lm_lc (tc_one (by decide)) (pe_lc (own := [("x", 9)]) rfl sc_law_grown.nd (im_rng1 (by rfl) T.b_range (am_cons (em_var (pv 5)) am_nil)) (blkOk_by (by kernel_rfl)) (fun _ _ _ _ _ => (pg_name (i := 9) sc_law_grown.nd rfl (by first | exact Or.inl rfl | exact Or.inr rfl))) (fun _ _ _ _ _ => pts_y) (fun _ _ _ _ _ => (em_or (em_cmp (op_eqA hr.units) opm_eq (em_var (pv 9)) (em_var (pv 6)) (nomark _)) (em_one (em_ix ix_seq opm_ix (em_ix ix_seq opm_ix (em_var (pv 1)) (em_var (pv 6)) (fun _ _ => rfl)) (em_var (pv 9)) (fun _ _ => rfl)))))))))
    (ss_one (s_pre (vs := [10]) (s_for PassesOwn.never rfl (im_rng1 (by rfl) T.b_range (am_cons (em_var (pv 5)) am_nil)) (pg_name (i := 10) sc_law_grown.nd rfl (by first | exact Or.inl rfl | exact Or.inr rfl)) (tg_one 10) (ss_wip (vs := [10]) (ss_one (s_if (bm_w (wm_and (bm_truth (em_ix ix_seq opm_ix (em_ix ix_seq opm_ix (em_var (pv 1)) (em_var (pv 10)) (fun _ _ => rfl)) (em_var (pv 6)) (fun _ _ => rfl)) fun _ => rfl) (wm_and1 (bm_cmp (op_eqA hr.units) opm_eq (em_call (ok_law_take T) n_law_take (hr.mono (by decide)) (by rfl) T.g_law_take T.F_law_take.kp (bi_law_take T) .nil (fun _ => .nil) (am_cons (em_var (pv 0)) (am_cons em_int am_nil))) em_int (nomark _))))) (ss_one (s_set (i := 7) sc_law_grown.nd rfl (Or.inr rfl) (em_fls (lm_lc (tc_one (by decide)) (pe_lc (own := [("z", 11)]) rfl sc_law_grown.nd (im_rng1 (by rfl) T.b_range (am_cons (em_var (pv 5)) am_nil)) (blkOk_by (by kernel_rfl)) (fun _ _ _ _ _ => (pg_name (i := 11) sc_law_grown.nd rfl (by first | exact Or.inl rfl | exact Or.inr rfl))) (fun _ _ _ _ _ => pts_y) (fun _ _ _ _ _ => (em_or (em_ix ix_seq opm_ix (em_var (pv 7)) (em_var (pv 11)) (fun _ _ => rfl)) (em_or (em_cmp (op_eqA hr.units) opm_eq (em_var (pv 11)) (em_var (pv 10)) (nomark _)) (em_one (em_ix ix_seq opm_ix (em_ix ix_seq opm_ix (em_var (pv 1)) (em_var (pv 11)) (fun _ _ => rfl)) (em_var (pv 10)) (fun _ _ => rfl))))))))))) ss_nil)))))))) ss_nil)))
    (ss_one (s_set (i := 1) sc_law_grown.nd rfl (Or.inr rfl) (em_fls (lm_cat (em_fls (lm_lc (tc_one (by decide)) (pe_lc (own := [("x", 9)]) rfl sc_law_grown.nd (im_rng1 (by rfl) T.b_range (am_cons (em_var (pv 5)) am_nil)) (blkOk_by (by kernel_rfl)) (fun _ _ _ _ _ => (pg_name (i := 9) sc_law_grown.nd rfl (by first | exact Or.inl rfl | exact Or.inr rfl))) (fun _ _ _ _ _ => pts_y) (fun _ _ _ _ _ => (em_fls (lm_cat (em_ix ix_seq opm_ix (em_var (pv 1)) (em_var (pv 9)) (fun _ _ => rfl)) (em_fls (lm_lst (am_cons (em_ix ix_seq opm_ix (em_var (pv 7)) (em_var (pv 9)) (fun _ _ => rfl)) am_nil))))))))) (em_fls (lm_lst (am_cons (em_fls (lm_cat (em_var (pv 8)) (em_fls (lm_lst (am_cons em_bl am_nil))))) am_nil))))))))))))))))
    (ss_one (s_ret (em_var (pv 1)))))
theorem ok_law_drawn (T : Txt K mg) : FnOk P w K mg base CX0 5 T.a_law_drawn T.d_law_drawn ["state"] (spM K mg 1 f_law_drawn) := (fn_mir (k := 4) (m := m_law_drawn) T.F_law_drawn sc_law_drawn fun cdv A outer s H E hr =>
    (ss_cons (s_set (i := 1) sc_law_drawn.nd rfl (Or.inl rfl) (em_call (ok_law_take T) n_law_take (hr.mono (by decide)) (by rfl) T.g_law_take T.F_law_take.kp (bi_law_take T) .nil (fun _ => .nil) (am_cons (em_var (pv 0)) (am_cons em_int am_nil))))
    (ss_cons (s_if (bm_cmp (op_eqA hr.units) opm_eq (em_var (pv 1)) em_int (nomark _)) (ss_one (s_set (i := 2) sc_law_drawn.nd rfl (Or.inr rfl) (em_call (ok_law_ring T) n_law_ring (hr.mono (by decide)) (by rfl) T.g_law_ring T.F_law_ring.kp (bi_law_ring T) .nil (fun _ => .nil) (am_cons (em_op op_addA opm_add em_int (em_call (ok_law_take T) n_law_take (hr.mono (by decide)) (by rfl) T.g_law_take T.F_law_take.kp (bi_law_take T) .nil (fun _ => .nil) (am_cons (em_var (pv 0)) (am_cons em_int am_nil)))) am_nil)))) (ss_one (s_if (bm_cmp (op_eqA hr.units) opm_eq (em_var (pv 1)) em_int (nomark _)) (ss_one (s_set (i := 2) sc_law_drawn.nd rfl (Or.inr rfl) (em_call (ok_law_levels T) n_law_levels (hr.mono (by decide)) (by rfl) T.g_law_levels T.F_law_levels.kp (bi_law_levels T) .nil (fun _ => .nil) (am_cons (em_var (pv 0)) am_nil)))) (ss_one (s_set (i := 2) sc_law_drawn.nd rfl (Or.inr rfl) (em_call (ok_law_any T) n_law_any (hr.mono (by decide)) (by rfl) T.g_law_any T.F_law_any.kp (bi_law_any T) .nil (fun _ => .nil) (am_cons (em_var (pv 0)) (am_cons (em_call (ok_law_take T) n_law_take (hr.mono (by decide)) (by rfl) T.g_law_take T.F_law_take.kp (bi_law_take T) .nil (fun _ => .nil) (am_cons (em_var (pv 0)) (am_cons em_int am_nil))) am_nil))))))))
    (ss_cons (s_if (bm_cmp (op_eqA hr.units) opm_eq (em_call (ok_law_take T) n_law_take (hr.mono (by decide)) (by rfl) T.g_law_take T.F_law_take.kp (bi_law_take T) .nil (fun _ => .nil) (am_cons (em_var (pv 0)) (am_cons em_int am_nil))) em_int (nomark _)) (ss_one (s_set (i := 2) sc_law_drawn.nd rfl (Or.inr rfl) (em_call (ok_law_grown T) n_law_grown (hr.mono (by decide)) (by rfl) T.g_law_grown T.F_law_grown.kp (bi_law_grown T) .nil (fun _ => .nil) (am_cons (em_var (pv 0)) (am_cons (em_var (pv 2)) (am_cons (em_op op_addA opm_add em_int (em_call (ok_law_take T) n_law_take (hr.mono (by decide)) (by rfl) T.g_law_take T.F_law_take.kp (bi_law_take T) .nil (fun _ => .nil) (am_cons (em_var (pv 0)) (am_cons em_int am_nil)))) (am_cons (em_ref (lm_lst am_nil)) am_nil))))))) ss_nil)
    (ss_cons (s_set (i := 3) sc_law_drawn.nd rfl (Or.inr rfl) (em_call (ok_law_mingled T) n_law_mingled (hr.mono (by decide)) (by rfl) T.g_law_mingled T.F_law_mingled.kp (bi_law_mingled T) .nil (fun _ => .nil) (am_cons (em_var (pv 0)) (am_cons (em_blt call_len cm_len (by rfl) T.b_len PySem.boot_len (am_cons (em_var (pv 2)) am_nil)) am_nil))))
    (ss_one (s_ret (em_fls (lm_lc (tc_one (by decide)) (pe_lc (own := [("x", 5)]) rfl sc_law_drawn.nd (im_seq (em_var (pv 3))) (blkOk_by (by kernel_rfl)) (fun _ _ _ _ _ => (pg_name (i := 5) sc_law_drawn.nd rfl (by first | exact Or.inl rfl | exact Or.inr rfl))) (fun _ _ _ _ _ => pts_y) (fun _ _ _ _ _ => (em_fls (lm_lc (tc_one (by decide)) (pe_lc (own := [("y", 4)]) rfl sc_law_drawn.nd (im_seq (em_var (pv 3))) (blkOk_by (by kernel_rfl)) (fun _ _ _ _ _ => (pg_name (i := 4) sc_law_drawn.nd rfl (by first | exact Or.inl rfl | exact Or.inr rfl))) (fun _ _ _ _ _ => pts_y) (fun _ _ _ _ _ => (em_ix ix_seq opm_ix (em_ix ix_seq opm_ix (em_var (pv 2)) (em_var (pv 5)) (fun _ _ => rfl)) (em_var (pv 4)) (fun _ _ => rfl))))))))))))))))).imp cut_sp
theorem ok_law_order (T : Txt K mg) : FnOk P w K mg base CX0 1 T.a_law_order T.d_law_order ["up"] (spM K mg 1 f_law_order) := fn_mir T.F_law_order sc_law_order fun cdv A outer s H E hr =>
    (ss_cons (s_set (i := 1) sc_law_order.nd rfl (Or.inl rfl) (em_fls (lm_lst am_nil)))
    (ss_cons (s_pre (vs := [2]) (s_for PassesOwn.never rfl (im_rng1 (by rfl) T.b_range (am_cons (em_blt call_len cm_len (by rfl) T.b_len PySem.boot_len (am_cons (em_var (pv 0)) am_nil)) am_nil)) (pg_name (i := 2) sc_law_order.nd rfl (by first | exact Or.inl rfl | exact Or.inr rfl)) (tg_one 2) (ss_wip (vs := [2]) (ss_one (s_set (i := 1) sc_law_order.nd rfl (Or.inl rfl) (em_fls (lm_cat (em_var (pv 1)) (em_fls (lm_lc (tc_one (by decide)) (pe_lc (own := [("y", 3)]) rfl sc_law_order.nd (im_rng1 (by rfl) T.b_range (am_cons (em_blt call_len cm_len (by rfl) T.b_len PySem.boot_len (am_cons (em_var (pv 0)) am_nil)) am_nil)) (blkOk_by (by kernel_rfl)) (fun _ _ _ _ _ => (pg_name (i := 3) sc_law_order.nd rfl (by first | exact Or.inl rfl | exact Or.inr rfl))) (fun _ _ _ _ _ => (pts_M (bm_truth (em_ix ix_seq opm_ix (em_ix ix_seq opm_ix (em_var (pv 0)) (em_var (pv 2)) (fun _ _ => rfl)) (em_var (pv 3)) (fun _ _ => rfl)) fun _ => rfl))) (fun _ _ _ _ _ => (em_tup (am_cons (em_var (pv 2)) (am_cons (em_var (pv 3)) am_nil))))))))))))))
    (ss_one (s_ret (em_tup (am_cons (em_blt call_len cm_len (by rfl) T.b_len PySem.boot_len (am_cons (em_var (pv 0)) am_nil)) (am_cons (em_bty call_tuple_of cm_tup (by rfl) T.b_tuple PyProof.Rows.boot_tuple (am_cons (em_var (pv 1)) am_nil)) am_nil)))))))
theorem ok_law_strikes (T : Txt K mg) : FnOk P w K mg base CX0 1 T.a_law_strikes T.d_law_strikes ["up", "left"] (spM K mg 2 f_law_strikes) := (fn_mir (k := 0) (m := m_law_strikes) T.F_law_strikes sc_law_strikes fun cdv A outer s H E hr =>
    (ss_cons (s_set (i := 2) sc_law_strikes.nd rfl (Or.inr rfl) em_dnew)
    (ss_cons (s_set (i := 3) sc_law_strikes.nd rfl (Or.inr rfl) em_dnew)
    (ss_cons (s_pre (vs := [4]) (s_for PassesOwn.never rfl (im_seq (em_var (pv 1))) (pg_name (i := 4) sc_law_strikes.nd rfl (by first | exact Or.inl rfl | exact Or.inr rfl)) (tg_one 4) (ss_wip (vs := [4]) (ss_cons (s_dput hr.units (em_var (pv 2)) (em_var (pv 4)) (em_blt call_len cm_len (by rfl) T.b_len PySem.boot_len (am_cons (em_fls (lm_lc (tc_one (by decide)) (pe_lc (own := [("y", 5)]) rfl sc_law_strikes.nd (im_seq (em_var (pv 1))) (blkOk_by (by kernel_rfl)) (fun _ _ _ _ _ => (pg_name (i := 5) sc_law_strikes.nd rfl (by first | exact Or.inl rfl | exact Or.inr rfl))) (fun _ _ _ _ _ => (pts_M (bm_truth (em_ix ix_seq opm_ix (em_ix ix_seq opm_ix (em_var (pv 0)) (em_var (pv 5)) (fun _ _ => rfl)) (em_var (pv 4)) (fun _ _ => rfl)) fun _ => rfl))) (fun _ _ _ _ _ => (em_var (pv 5)))))) am_nil)))
    (ss_one (s_dput hr.units (em_var (pv 3)) (em_var (pv 4)) (em_blt call_len cm_len (by rfl) T.b_len PySem.boot_len (am_cons (em_fls (lm_lc (tc_one (by decide)) (pe_lc (own := [("y", 5)]) rfl sc_law_strikes.nd (im_seq (em_var (pv 1))) (blkOk_by (by kernel_rfl)) (fun _ _ _ _ _ => (pg_name (i := 5) sc_law_strikes.nd rfl (by first | exact Or.inl rfl | exact Or.inr rfl))) (fun _ _ _ _ _ => (pts_M (bm_truth (em_ix ix_seq opm_ix (em_ix ix_seq opm_ix (em_var (pv 0)) (em_var (pv 4)) (fun _ _ => rfl)) (em_var (pv 5)) (fun _ _ => rfl)) fun _ => rfl))) (fun _ _ _ _ _ => (em_var (pv 5)))))) am_nil))))))))
    (ss_cons (s_set (i := 6) sc_law_strikes.nd rfl (Or.inl rfl) (em_fls (lm_lst am_nil)))
    (ss_cons (s_pre (vs := [4]) (s_for PassesOwn.never rfl (im_seq (em_var (pv 1))) (pg_name (i := 4) sc_law_strikes.nd rfl (by first | exact Or.inl rfl | exact Or.inr rfl)) (tg_one 4) (ss_wip (vs := [4]) (ss_cons (s_set (i := 6) sc_law_strikes.nd rfl (Or.inl rfl) (em_fls (lm_cat (em_var (pv 6)) (em_fls (lm_lc (tc_one (by decide)) (pe_lc (own := [("y", 5)]) rfl sc_law_strikes.nd (im_seq (em_var (pv 1))) (blkOk_by (by kernel_rfl)) (fun _ _ _ _ _ => (pg_name (i := 5) sc_law_strikes.nd rfl (by first | exact Or.inl rfl | exact Or.inr rfl))) (fun _ _ _ _ _ => (pts_M (bm_w (wm_and (bm_truth (em_ix ix_seq opm_ix (em_ix ix_seq opm_ix (em_var (pv 0)) (em_var (pv 5)) (fun _ _ => rfl)) (em_var (pv 4)) (fun _ _ => rfl)) fun _ => rfl) (wm_and1 (bm_cmp (op_eqA hr.units) opm_eq (em_dget hr.units (em_var (pv 2)) (em_var (pv 5)) (fun _ _ => rfl)) (em_op op_sub opm_sub (em_dget hr.units (em_var (pv 2)) (em_var (pv 4)) (fun _ _ => rfl)) em_int) (nomark _))))))) (fun _ _ _ _ _ => (em_tup (am_cons (em_var (pv 4)) (am_cons em_str (am_cons (em_var (pv 5)) am_nil)))))))))))
    (ss_one (s_set (i := 6) sc_law_strikes.nd rfl (Or.inl rfl) (em_fls (lm_cat (em_var (pv 6)) (em_fls (lm_lc (tc_one (by decide)) (pe_lc (own := [("y", 5)]) rfl sc_law_strikes.nd (im_seq (em_var (pv 1))) (blkOk_by (by kernel_rfl)) (fun _ _ _ _ _ => (pg_name (i := 5) sc_law_strikes.nd rfl (by first | exact Or.inl rfl | exact Or.inr rfl))) (fun _ _ _ _ _ => (pts_M (bm_w (wm_and (bm_truth (em_ix ix_seq opm_ix (em_ix ix_seq opm_ix (em_var (pv 0)) (em_var (pv 4)) (fun _ _ => rfl)) (em_var (pv 5)) (fun _ _ => rfl)) fun _ => rfl) (wm_and1 (bm_cmp (op_eqA hr.units) opm_eq (em_dget hr.units (em_var (pv 3)) (em_var (pv 5)) (fun _ _ => rfl)) (em_op op_sub opm_sub (em_dget hr.units (em_var (pv 3)) (em_var (pv 4)) (fun _ _ => rfl)) em_int) (nomark _))))))) (fun _ _ _ _ _ => (em_tup (am_cons (em_var (pv 4)) (am_cons em_str (am_cons (em_var (pv 5)) am_nil))))))))))))))))
    (ss_one (s_ret (em_var (pv 6)))))))))).imp cut_sp
theorem ok_law_due (T : Txt K mg) : FnOk P w K mg base CX0 2 T.a_law_due T.d_law_due ["up", "left"] (spM K mg 2 f_law_due) := fn_mir T.F_law_due sc_law_due fun cdv A outer s H E hr =>
    (ss_one (s_ret (em_bty call_tuple_of cm_tup (by rfl) T.b_tuple PyProof.Rows.boot_tuple (am_cons (em_fls (lm_lc (tc_one (by decide)) (pe_lc (own := [("one", 2)]) rfl sc_law_due.nd (im_seq (em_call (ok_law_strikes T) n_law_strikes (hr.mono (by decide)) (by rfl) T.g_law_strikes T.F_law_strikes.kp (bi_law_strikes T) .nil (fun _ => .nil) (am_cons (em_var (pv 0)) (am_cons (em_var (pv 1)) am_nil)))) (blkOk_by (by kernel_rfl)) (fun _ _ _ _ _ => (pg_name (i := 2) sc_law_due.nd rfl (by first | exact Or.inl rfl | exact Or.inr rfl))) (fun _ _ _ _ _ => pts_y) (fun _ _ _ _ _ => (em_tup (am_cons (em_ix ix_seq opm_ix (em_var (pv 2)) em_int (fun _ _ => rfl)) (am_cons (em_ix ix_seq opm_ix (em_var (pv 2)) em_int (fun _ _ => rfl)) am_nil))))))) am_nil))))
theorem ok_law_is_told (T : Txt K mg) : FnOk P w K mg base CX0 8 T.a_law_is_told T.d_law_is_told ["order", "up", "left"] (spM K mg 3 f_law_is_told) := fn_mir T.F_law_is_told sc_law_is_told fun cdv A outer s H E hr =>
    (ss_one (s_ret (em_call (ok_law_same T) n_law_same (hr.mono (by decide)) (by rfl) T.g_law_same T.F_law_same.kp (bi_law_same T) .nil (fun _ => .nil) (am_cons (em_call (ok_strikes_of T) n_strikes_of (hr.mono (by decide)) (by rfl) T.g_strikes_of T.F_strikes_of.kp (bi_strikes_of T) .nil (fun _ => .nil) (am_cons (em_var (pv 0)) (am_cons (em_bty call_tuple_of cm_tup (by rfl) T.b_tuple PyProof.Rows.boot_tuple (am_cons (em_var (pv 2)) am_nil)) am_nil))) (am_cons (em_call (ok_law_due T) n_law_due (hr.mono (by decide)) (by rfl) T.g_law_due T.F_law_due.kp (bi_law_due T) .nil (fun _ => .nil) (am_cons (em_var (pv 1)) (am_cons (em_var (pv 2)) am_nil))) am_nil)))))
theorem ok_law_apart (T : Txt K mg) : FnOk P w K mg base CX0 4 T.a_law_apart T.d_law_apart ["state", "up"] (spM K mg 2 f_law_apart) := fn_mir T.F_law_apart sc_law_apart fun cdv A outer s H E hr =>
    (ss_cons (s_set (i := 2) sc_law_apart.nd rfl (Or.inr rfl) (em_op op_addA opm_add em_int (em_call (ok_law_take T) n_law_take (hr.mono (by decide)) (by rfl) T.g_law_take T.F_law_take.kp (bi_law_take T) .nil (fun _ => .nil) (am_cons (em_var (pv 0)) (am_cons em_int am_nil)))))
    (ss_cons (s_set (i := 1) sc_law_apart.nd rfl (Or.inr rfl) (em_fls (lm_cat (em_fls (lm_lc (tc_one (by decide)) (pe_lc (own := [("line", 3)]) rfl sc_law_apart.nd (im_seq (em_var (pv 1))) (blkOk_by (by kernel_rfl)) (fun _ _ _ _ _ => (pg_name (i := 3) sc_law_apart.nd rfl (by first | exact Or.inl rfl | exact Or.inr rfl))) (fun _ _ _ _ _ => pts_y) (fun _ _ _ _ _ => (em_fls (lm_cat (em_var (pv 3)) (em_fls (lm_rep (em_fls (lm_lst (am_cons em_bl am_nil))) (em_op op_sub opm_sub (em_var (pv 2)) (em_blt call_len cm_len (by rfl) T.b_len PySem.boot_len (am_cons (em_var (pv 1)) am_nil))))))))))) (em_fls (lm_lc (tc_one (by decide)) (pe_lc (own := [("x", 4)]) rfl sc_law_apart.nd (im_rng1 (by rfl) T.b_range (am_cons (em_op op_sub opm_sub (em_var (pv 2)) (em_blt call_len cm_len (by rfl) T.b_len PySem.boot_len (am_cons (em_var (pv 1)) am_nil))) am_nil)) (blkOk_by (by kernel_rfl)) (fun _ _ _ _ _ => (pg_name (i := 4) sc_law_apart.nd rfl (by first | exact Or.inl rfl | exact Or.inr rfl))) (fun _ _ _ _ _ => pts_y) (fun _ _ _ _ _ => (em_fls (lm_rep (em_fls (lm_lst (am_cons em_bl am_nil))) (em_var (pv 2)))))))))))
    (ss_cons (s_set (i := 5) sc_law_apart.nd rfl (Or.inr rfl) (em_call (ok_law_mingled T) n_law_mingled (hr.mono (by decide)) (by rfl) T.g_law_mingled T.F_law_mingled.kp (bi_law_mingled T) .nil (fun _ => .nil) (am_cons (em_var (pv 0)) (am_cons (em_var (pv 2)) am_nil))))
    (ss_one (s_ret (em_fls (lm_lc (tc_one (by decide)) (pe_lc (own := [("x", 4)]) rfl sc_law_apart.nd (im_seq (em_var (pv 5))) (blkOk_by (by kernel_rfl)) (fun _ _ _ _ _ => (pg_name (i := 4) sc_law_apart.nd rfl (by first | exact Or.inl rfl | exact Or.inr rfl))) (fun _ _ _ _ _ => pts_y) (fun _ _ _ _ _ => (em_fls (lm_lc (tc_one (by decide)) (pe_lc (own := [("y", 6)]) rfl sc_law_apart.nd (im_seq (em_var (pv 5))) (blkOk_by (by kernel_rfl)) (fun _ _ _ _ _ => (pg_name (i := 6) sc_law_apart.nd rfl (by first | exact Or.inl rfl | exact Or.inr rfl))) (fun _ _ _ _ _ => pts_y) (fun _ _ _ _ _ => (em_ix ix_seq opm_ix (em_ix ix_seq opm_ix (em_var (pv 1)) (em_var (pv 4)) (fun _ _ => rfl)) (em_var (pv 6)) (fun _ _ => rfl)))))))))))))))
theorem ok_law (T : Txt K mg) : FnOk P w K mg base CX0 9 T.a_law T.d_law ["script"] (spM K mg 1 f_law) := fn_mir T.F_law sc_law fun cdv A outer s H E hr =>
    (ss_cons (s_set (i := 1) sc_law.nd rfl (Or.inr rfl) (em_call (ok_law_start T) n_law_start (hr.mono (by decide)) (by rfl) T.g_law_start T.F_law_start.kp (bi_law_start T) .nil (fun _ => .nil) (am_cons (em_var (pv 0)) am_nil)))
    (ss_cons (s_set (i := 2) sc_law.nd rfl (Or.inl rfl) (em_ref (lm_lst am_nil)))
    (ss_cons (s_pre (vs := [3, 7, 8, 9]) (s_for PassesOwn.never rfl (im_rng1 (by rfl) T.b_range (am_cons em_int am_nil)) (pg_name (i := 3) sc_law.nd rfl (by first | exact Or.inl rfl | exact Or.inr rfl)) (tg_one 3) (ss_wip (vs := [3, 7, 8, 9]) (ss_cons (s_set (i := 4) sc_law.nd rfl (Or.inl rfl) (em_call (ok_law_drawn T) n_law_drawn (hr.mono (by decide)) (by rfl) T.g_law_drawn T.F_law_drawn.kp (bi_law_drawn T) .nil (fun _ => .nil) (am_cons (em_var (pv 1)) am_nil)))
    (ss_cons (s_set (i := 5) sc_law.nd rfl (Or.inl rfl) (em_call (ok_law_order T) n_law_order (hr.mono (by decide)) (by rfl) T.g_law_order T.F_law_order.kp (bi_law_order T) .nil (fun _ => .nil) (am_cons (em_var (pv 4)) am_nil)))
    (ss_cons (s_set (i := 6) sc_law.nd rfl (Or.inl rfl) (em_fls (lm_rg rfl (by rfl) T.b_list (by rfl) T.b_range (em_blt call_len cm_len (by rfl) T.b_len PySem.boot_len (am_cons (em_var (pv 4)) am_nil)))))
    (ss_cons (s_expr (em_mth mm_app (pe_bm PySem.F.plainAttrs_list PySem.F.slot_list_append PySem.F.type_list_append mt_append (em_var (pv 2)) (am_cons (em_fls (lm_lst (am_cons (em_var (pv 5)) (am_cons (em_var (pv 4)) (am_cons (em_var (pv 6)) am_nil))))) am_nil))))
    (ss_cons (s_pre (vs := [7, 8, 9]) (s_for PassesOwn.never rfl (im_rng1 (by rfl) T.b_range (am_cons (em_op op_addA opm_add em_int (em_call (ok_law_take T) n_law_take (hr.mono (by decide)) (by rfl) T.g_law_take T.F_law_take.kp (bi_law_take T) .nil (fun _ => .nil) (am_cons (em_var (pv 1)) (am_cons em_int am_nil)))) am_nil)) (pg_name (i := 7) sc_law.nd rfl (by first | exact Or.inl rfl | exact Or.inr rfl)) (tg_one 7) (ss_wip (vs := [7, 8, 9]) (ss_cons (s_if (bm_not (bm_truth (em_call (ok_law_is_told T) n_law_is_told (hr.mono (by decide)) (by rfl) T.g_law_is_told T.F_law_is_told.kp (bi_law_is_told T) .nil (fun _ => .nil) (am_cons (em_var (pv 5)) (am_cons (em_var (pv 4)) (am_cons (em_var (pv 6)) am_nil)))) fun _ => rfl)) (ss_one (s_ret em_bl)) ss_nil)
    (ss_cons (s_set (i := 8) sc_law.nd rfl (Or.inl rfl) (em_call (ok_law_strikes T) n_law_strikes (hr.mono (by decide)) (by rfl) T.g_law_strikes T.F_law_strikes.kp (bi_law_strikes T) .nil (fun _ => .nil) (am_cons (em_var (pv 4)) (am_cons (em_var (pv 6)) am_nil))))
    (ss_cons (s_if (bm_cmp (op_eqA hr.units) opm_eq (em_var (pv 8)) (em_fls (lm_lst am_nil)) (nomark _)) (ss_one s_break) ss_nil)
    (ss_cons (s_set (i := 9) sc_law.nd rfl (Or.inr rfl) (em_ix ix_seq opm_ix (em_ix ix_seq opm_ix (em_var (pv 8)) (em_call (ok_law_take T) n_law_take (hr.mono (by decide)) (by rfl) T.g_law_take T.F_law_take.kp (bi_law_take T) .nil (fun _ => .nil) (am_cons (em_var (pv 1)) (am_cons (em_blt call_len cm_len (by rfl) T.b_len PySem.boot_len (am_cons (em_var (pv 8)) am_nil)) am_nil))) (fun _ _ => rfl)) em_int (fun _ _ => rfl)))
    (ss_one (s_lcF (tc_one (by decide)) (ps_setLc (i := 6) (own := [("y", 10)]) rfl sc_law.nd rfl rfl (sw_true rfl rfl rfl (by decide +kernel)) (im_seq (em_var (pv 6))) (blkOk_by (by kernel_rfl)) (fun _ _ _ _ _ => (pg_name (i := 10) sc_law.nd rfl (by first | exact Or.inl rfl | exact Or.inr rfl))) (fun _ _ _ _ _ => (pts_M (bm_cmp (op_neA hr.units) opm_ne (em_var (pv 10)) (em_var (pv 9)) (nomark _)))) (fun _ _ _ _ _ => (em_var (pv 10)))))))))))))
    (ss_cons (s_if (bm_not (bm_truth (em_call (ok_law_is_told T) n_law_is_told (hr.mono (by decide)) (by rfl) T.g_law_is_told T.F_law_is_told.kp (bi_law_is_told T) .nil (fun _ => .nil) (am_cons (em_var (pv 5)) (am_cons (em_var (pv 4)) (am_cons (em_var (pv 6)) am_nil)))) fun _ => rfl)) (ss_one (s_ret em_bl)) ss_nil)
    (ss_one (s_if (bm_not (bm_truth (em_call (ok_law_is_told T) n_law_is_told (hr.mono (by decide)) (by rfl) T.g_law_is_told T.F_law_is_told.kp (bi_law_is_told T) .nil (fun _ => .nil) (am_cons (em_var (pv 5)) (am_cons (em_var (pv 4)) (am_cons (em_fls (lm_lc (tc_one (by decide)) (pe_lc (own := [("x", 9)]) rfl sc_law.nd (im_rng1 (by rfl) T.b_range (am_cons (em_blt call_len cm_len (by rfl) T.b_len PySem.boot_len (am_cons (em_var (pv 4)) am_nil)) am_nil)) (blkOk_by (by kernel_rfl)) (fun _ _ _ _ _ => (pg_name (i := 9) sc_law.nd rfl (by first | exact Or.inl rfl | exact Or.inr rfl))) (fun _ _ _ _ _ => (pts_M (bm_cmp op_gt opm_gt (em_call (ok_law_take T) n_law_take (hr.mono (by decide)) (by rfl) T.g_law_take T.F_law_take.kp (bi_law_take T) .nil (fun _ => .nil) (am_cons (em_var (pv 1)) (am_cons em_int am_nil))) em_int (nomark _)))) (fun _ _ _ _ _ => (em_var (pv 9)))))) am_nil)))) fun _ => rfl)) (ss_one (s_ret em_bl)) ss_nil)))))))))))
    (ss_cons (s_for PassesOwn.never rfl (im_seq (em_var (pv 2))) (pg_lst rfl (pgs_cons (pg_name (i := 5) sc_law.nd rfl (by first | exact Or.inl rfl | exact Or.inr rfl)) (pgs_cons (pg_name (i := 4) sc_law.nd rfl (by first | exact Or.inl rfl | exact Or.inr rfl)) (pgs_cons (pg_name (i := 6) sc_law.nd rfl (by first | exact Or.inl rfl | exact Or.inr rfl)) pgs_nil)))) (tg_lst [5, 4, 6]) (ss_one (s_if (bm_not (bm_truth (em_call (ok_law_is_told T) n_law_is_told (hr.mono (by decide)) (by rfl) T.g_law_is_told T.F_law_is_told.kp (bi_law_is_told T) .nil (fun _ => .nil) (am_cons (em_var (pv 5)) (am_cons (em_var (pv 4)) (am_cons (em_var (pv 6)) am_nil)))) fun _ => rfl)) (ss_one (s_ret em_bl)) ss_nil)))
    (ss_cons (s_if (bm_cmp (op_eqA hr.units) opm_eq (em_call (ok_law_take T) n_law_take (hr.mono (by decide)) (by rfl) T.g_law_take T.F_law_take.kp (bi_law_take T) .nil (fun _ => .nil) (am_cons (em_var (pv 1)) (am_cons em_int am_nil))) em_int (nomark _)) (ss_cons (s_set (i := 4) sc_law.nd rfl (Or.inl rfl) (em_call (ok_law_apart T) n_law_apart (hr.mono (by decide)) (by rfl) T.g_law_apart T.F_law_apart.kp (bi_law_apart T) .nil (fun _ => .nil) (am_cons (em_var (pv 1)) (am_cons (em_var (pv 4)) am_nil))))
    (ss_cons (s_set (i := 11) sc_law.nd rfl (Or.inr rfl) (em_ix ix_seq opm_ix (em_fls (lm_lst (am_cons em_int (am_cons em_int am_nil)))) (em_call (ok_law_take T) n_law_take (hr.mono (by decide)) (by rfl) T.g_law_take T.F_law_take.kp (bi_law_take T) .nil (fun _ => .nil) (am_cons (em_var (pv 1)) (am_cons em_int am_nil))) (fun _ _ => rfl)))
    (ss_one (s_if (bm_not (bm_truth (em_call (ok_law_is_told T) n_law_is_told (hr.mono (by decide)) (by rfl) T.g_law_is_told T.F_law_is_told.kp (bi_law_is_told T) .nil (fun _ => .nil) (am_cons (em_call (ok_law_order T) n_law_order (hr.mono (by decide)) (by rfl) T.g_law_order T.F_law_order.kp (bi_law_order T) .nil (fun _ => .nil) (am_cons (em_var (pv 4)) am_nil)) (am_cons (em_var (pv 4)) (am_cons (em_fls (lm_lc (tc_one (by decide)) (pe_lc (own := [("x", 9)]) rfl sc_law.nd (im_rng1 (by rfl) T.b_range (am_cons (em_blt call_len cm_len (by rfl) T.b_len PySem.boot_len (am_cons (em_var (pv 4)) am_nil)) am_nil)) (blkOk_by (by kernel_rfl)) (fun _ _ _ _ _ => (pg_name (i := 9) sc_law.nd rfl (by first | exact Or.inl rfl | exact Or.inr rfl))) (fun _ _ _ _ _ => (pts_M (bm_w (wm_or (bm_cmp (op_eqA hr.units) opm_eq (em_var (pv 11)) em_int (nomark _)) (wm_or1 (bm_cmp op_gt opm_gt (em_call (ok_law_take T) n_law_take (hr.mono (by decide)) (by rfl) T.g_law_take T.F_law_take.kp (bi_law_take T) .nil (fun _ => .nil) (am_cons (em_var (pv 1)) (am_cons (em_var (pv 11)) am_nil))) em_int (nomark _))))))) (fun _ _ _ _ _ => (em_var (pv 9)))))) am_nil)))) fun _ => rfl)) (ss_one (s_ret em_bl)) ss_nil)))) ss_nil)
    (ss_cons (s_lcF (tc_one (by decide)) (ps_setLc (i := 6) (own := [("x", 9)]) rfl sc_law.nd rfl rfl (sw_true rfl rfl rfl (by decide +kernel)) (im_seq (em_var (pv 6))) (blkOk_by (by kernel_rfl)) (fun _ _ _ _ _ => (pg_name (i := 9) sc_law.nd rfl (by first | exact Or.inl rfl | exact Or.inr rfl))) (fun _ _ _ _ _ => (pts_M (bm_cmp op_gt opm_gt (em_call (ok_law_take T) n_law_take (hr.mono (by decide)) (by rfl) T.g_law_take T.F_law_take.kp (bi_law_take T) .nil (fun _ => .nil) (am_cons (em_var (pv 1)) (am_cons em_int am_nil))) em_int (nomark _)))) (fun _ _ _ _ _ => (em_var (pv 9)))))
    (ss_one (s_ret (em_call (ok_law_same T) n_law_same (hr.mono (by decide)) (by rfl) T.g_law_same T.F_law_same.kp (bi_law_same T) .nil (fun _ => .nil) (am_cons (em_callK0 (ok_strikes_of T) n_strikes_of (hr.mono (by decide)) (by rfl) T.g_strikes_of T.F_strikes_of.kp (kb_strikes_of_0 T) (fun _ => .nil) (km_cons (em_bty call_tuple_of cm_tup (by rfl) T.b_tuple PyProof.Rows.boot_tuple (am_cons (em_var (pv 6)) am_nil)) (km_cons (em_var (pv 5)) km_nil))) (am_cons (em_call (ok_law_due T) n_law_due (hr.mono (by decide)) (by rfl) T.g_law_due T.F_law_due.kp (bi_law_due T) .nil (fun _ => .nil) (am_cons (em_ix ix_seq opm_ix (em_ix ix_seq opm_ix (em_var (pv 2)) em_int (fun _ _ => rfl)) em_int (fun _ _ => rfl)) (am_cons (em_var (pv 6)) am_nil))) am_nil)))))))))))
end
end Mi.k18
set_option maxHeartbeats 8000000
namespace Mi.k18
open PySem L2
theorem txt_mk {K : PySem.W.Frag} {h : Heap} {mg : Str → Option Value} {fa : Addr} (X : K.In h) (G : h.Ns mainGlobals mg) (hfa : mg "law" = some (.ref fa)) {C_Remainder : Addr} {f0 : Addr} {od0 an0 : Option Addr} {sl0 : Array (Option Value)} {oc0 kV0 dc0 pm0 cd0 ct0 : Value} {f1 : Addr} {od1 an1 : Option Addr} {sl1 : Array (Option Value)} {oc1 kV1 dc1 pm1 cd1 ct1 : Value} {f2 : Addr} {od2 an2 : Option Addr} {sl2 : Array (Option Value)} {oc2 kV2 dc2 pm2 cd2 ct2 : Value} {f3 : Addr} {od3 an3 : Option Addr} {sl3 : Array (Option Value)} {oc3 kV3 dc3 pm3 cd3 ct3 : Value} {f4 : Addr} {od4 an4 : Option Addr} {sl4 : Array (Option Value)} {oc4 kV4 dc4 pm4 cd4 ct4 : Value} {f5 : Addr} {od5 an5 : Option Addr} {sl5 : Array (Option Value)} {oc5 kV5 dc5 pm5 cd5 ct5 : Value} {f6 : Addr} {od6 an6 : Option Addr} {sl6 : Array (Option Value)} {oc6 kV6 dc6 pm6 cd6 ct6 : Value} {f7 : Addr} {od7 an7 : Option Addr} {sl7 : Array (Option Value)} {oc7 kV7 dc7 pm7 cd7 ct7 : Value} {f8 : Addr} {od8 an8 : Option Addr} {sl8 : Array (Option Value)} {oc8 kV8 dc8 pm8 cd8 ct8 : Value} {f9 : Addr} {od9 an9 : Option Addr} {sl9 : Array (Option Value)} {oc9 kV9 dc9 pm9 cd9 ct9 : Value} {f10 : Addr} {od10 an10 : Option Addr} {sl10 : Array (Option Value)} {oc10 kV10 dc10 pm10 cd10 ct10 : Value} {f11 : Addr} {od11 an11 : Option Addr} {sl11 : Array (Option Value)} {oc11 kV11 dc11 pm11 cd11 ct11 : Value} {f12 : Addr} {od12 an12 : Option Addr} {sl12 : Array (Option Value)} {oc12 kV12 dc12 pm12 cd12 ct12 : Value} {f13 : Addr} {od13 an13 : Option Addr} {sl13 : Array (Option Value)} {oc13 kV13 dc13 pm13 cd13 ct13 : Value} {f14 : Addr} {od14 an14 : Option Addr} {sl14 : Array (Option Value)} {oc14 kV14 dc14 pm14 cd14 ct14 : Value} {f15 : Addr} {od15 an15 : Option Addr} {sl15 : Array (Option Value)} {oc15 kV15 dc15 pm15 cd15 ct15 : Value} {f16 : Addr} {od16 an16 : Option Addr} {sl16 : Array (Option Value)} {oc16 kV16 dc16 pm16 cd16 ct16 : Value} {f17 : Addr} {od17 an17 : Option Addr} {sl17 : Array (Option Value)} {oc17 kV17 dc17 pm17 cd17 ct17 : Value} {f18 : Addr} {od18 an18 : Option Addr} {sl18 : Array (Option Value)} {oc18 kV18 dc18 pm18 cd18 ct18 : Value}
    (oa_Remainder : PySem.W.nsIn K mainGlobals "Remainder" = some (some (.ref C_Remainder)))
    (ob_Remainder : PySem.W.plainGet K C_Remainder Str.empty = true)
    (oc_Remainder : PySem.W.hasDictIn K C_Remainder = true)
    (od_Remainder : PySem.W.plainOver K C_Remainder = true)
    (oe_Remainder : PySem.W.findIn K (.ref C_Remainder) "__setattr__" = some (some (.builtin "object.__setattr__")))
    (of_Remainder : PySem.W.makesIn K C_Remainder = true)
    (og_Remainder : PySem.W.keepIn K (.ref C_Remainder) = true)
    (oh_Remainder_left : PySem.W.findIn K (.ref C_Remainder) "left" = some none)
    (oh_Remainder_over_counts : PySem.W.findIn K (.ref C_Remainder) "over_counts" = some none)
    (oh_Remainder_overs : PySem.W.findIn K (.ref C_Remainder) "overs" = some none)
    (oh_Remainder_under_counts : PySem.W.findIn K (.ref C_Remainder) "under_counts" = some none)
    (oh_Remainder_unders : PySem.W.findIn K (.ref C_Remainder) "unders" = some none)
    (a0 : PySem.W.findIn K (.ref C_Remainder) "__init__" = some (some (.ref f0))) (i0 : PySem.W.isFn K (.ref f0) = true)
    (l0 : K.lookup f0 = some ⟨oc0, od0, .func (PySem.W.fnOf "__init__" "Remainder.__init__" (defArgs s_Remainder___init__) (defBody s_Remainder___init__) (defScope s_Remainder___init__) .none kV0 dc0 pm0 an0 cd0 ct0), sl0⟩)
    (c0 : PySem.W.codeIn K cd0 "Remainder.__init__" = true)
    (k0 : PySem.W.keepIn K (.ref f0) = true)
    (a1 : PySem.W.findIn K (.ref C_Remainder) "find_partner" = some (some (.ref f1))) (i1 : PySem.W.isFn K (.ref f1) = true)
    (l1 : K.lookup f1 = some ⟨oc1, od1, .func (PySem.W.fnOf "find_partner" "Remainder.find_partner" (defArgs s_Remainder_find_partner) (defBody s_Remainder_find_partner) (defScope s_Remainder_find_partner) .none kV1 dc1 pm1 an1 cd1 ct1), sl1⟩)
    (c1 : PySem.W.codeIn K cd1 "Remainder.find_partner" = true)
    (k1 : PySem.W.keepIn K (.ref f1) = true)
    (a2 : PySem.W.nsIn K mainGlobals "strikes_of" = some (some (.ref f2)))
    (l2 : K.lookup f2 = some ⟨oc2, od2, .func (PySem.W.fnOf "strikes_of" "strikes_of" (defArgs s_strikes_of) (defBody s_strikes_of) (defScope s_strikes_of) .none kV2 dc2 pm2 an2 cd2 ct2), sl2⟩)
    (c2 : PySem.W.codeIn K cd2 "strikes_of" = true)
    (k2 : PySem.W.keepIn K (.ref f2) = true)
    (a3 : PySem.W.nsIn K mainGlobals "_law_mixed" = some (some (.ref f3)))
    (l3 : K.lookup f3 = some ⟨oc3, od3, .func (PySem.W.fnOf "_law_mixed" "_law_mixed" (defArgs s_law_mixed) (defBody s_law_mixed) (defScope s_law_mixed) .none kV3 dc3 pm3 an3 cd3 ct3), sl3⟩)
    (c3 : PySem.W.codeIn K cd3 "_law_mixed" = true)
    (k3 : PySem.W.keepIn K (.ref f3) = true)
    (a4 : PySem.W.nsIn K mainGlobals "_law_start" = some (some (.ref f4)))
    (l4 : K.lookup f4 = some ⟨oc4, od4, .func (PySem.W.fnOf "_law_start" "_law_start" (defArgs s_law_start) (defBody s_law_start) (defScope s_law_start) .none kV4 dc4 pm4 an4 cd4 ct4), sl4⟩)
    (c4 : PySem.W.codeIn K cd4 "_law_start" = true)
    (k4 : PySem.W.keepIn K (.ref f4) = true)
    (a5 : PySem.W.nsIn K mainGlobals "_law_take" = some (some (.ref f5)))
    (l5 : K.lookup f5 = some ⟨oc5, od5, .func (PySem.W.fnOf "_law_take" "_law_take" (defArgs s_law_take) (defBody s_law_take) (defScope s_law_take) .none kV5 dc5 pm5 an5 cd5 ct5), sl5⟩)
    (c5 : PySem.W.codeIn K cd5 "_law_take" = true)
    (k5 : PySem.W.keepIn K (.ref f5) = true)
    (a6 : PySem.W.nsIn K mainGlobals "_law_same" = some (some (.ref f6)))
    (l6 : K.lookup f6 = some ⟨oc6, od6, .func (PySem.W.fnOf "_law_same" "_law_same" (defArgs s_law_same) (defBody s_law_same) (defScope s_law_same) .none kV6 dc6 pm6 an6 cd6 ct6), sl6⟩)
    (c6 : PySem.W.codeIn K cd6 "_law_same" = true)
    (k6 : PySem.W.keepIn K (.ref f6) = true)
    (a7 : PySem.W.nsIn K mainGlobals "_law_mingled" = some (some (.ref f7)))
    (l7 : K.lookup f7 = some ⟨oc7, od7, .func (PySem.W.fnOf "_law_mingled" "_law_mingled" (defArgs s_law_mingled) (defBody s_law_mingled) (defScope s_law_mingled) .none kV7 dc7 pm7 an7 cd7 ct7), sl7⟩)
    (c7 : PySem.W.codeIn K cd7 "_law_mingled" = true)
    (k7 : PySem.W.keepIn K (.ref f7) = true)
    (a8 : PySem.W.nsIn K mainGlobals "_law_any" = some (some (.ref f8)))
    (l8 : K.lookup f8 = some ⟨oc8, od8, .func (PySem.W.fnOf "_law_any" "_law_any" (defArgs s_law_any) (defBody s_law_any) (defScope s_law_any) .none kV8 dc8 pm8 an8 cd8 ct8), sl8⟩)
    (c8 : PySem.W.codeIn K cd8 "_law_any" = true)
    (k8 : PySem.W.keepIn K (.ref f8) = true)
    (a9 : PySem.W.nsIn K mainGlobals "_law_levels" = some (some (.ref f9)))
    (l9 : K.lookup f9 = some ⟨oc9, od9, .func (PySem.W.fnOf "_law_levels" "_law_levels" (defArgs s_law_levels) (defBody s_law_levels) (defScope s_law_levels) .none kV9 dc9 pm9 an9 cd9 ct9), sl9⟩)
    (c9 : PySem.W.codeIn K cd9 "_law_levels" = true)
    (k9 : PySem.W.keepIn K (.ref f9) = true)
    (a10 : PySem.W.nsIn K mainGlobals "_law_ring" = some (some (.ref f10)))
    (l10 : K.lookup f10 = some ⟨oc10, od10, .func (PySem.W.fnOf "_law_ring" "_law_ring" (defArgs s_law_ring) (defBody s_law_ring) (defScope s_law_ring) .none kV10 dc10 pm10 an10 cd10 ct10), sl10⟩)
    (c10 : PySem.W.codeIn K cd10 "_law_ring" = true)
    (k10 : PySem.W.keepIn K (.ref f10) = true)
    (a11 : PySem.W.nsIn K mainGlobals "_law_grown" = some (some (.ref f11)))
    (l11 : K.lookup f11 = some ⟨oc11, od11, .func (PySem.W.fnOf "_law_grown" "_law_grown" (defArgs s_law_grown) (defBody s_law_grown) (defScope s_law_grown) .none kV11 dc11 pm11 an11 cd11 ct11), sl11⟩)
    (c11 : PySem.W.codeIn K cd11 "_law_grown" = true)
    (k11 : PySem.W.keepIn K (.ref f11) = true)
    (a12 : PySem.W.nsIn K mainGlobals "_law_drawn" = some (some (.ref f12)))
    (l12 : K.lookup f12 = some ⟨oc12, od12, .func (PySem.W.fnOf "_law_drawn" "_law_drawn" (defArgs s_law_drawn) (defBody s_law_drawn) (defScope s_law_drawn) .none kV12 dc12 pm12 an12 cd12 ct12), sl12⟩)
    (c12 : PySem.W.codeIn K cd12 "_law_drawn" = true)
    (k12 : PySem.W.keepIn K (.ref f12) = true)
    (a13 : PySem.W.nsIn K mainGlobals "_law_order" = some (some (.ref f13)))
    (l13 : K.lookup f13 = some ⟨oc13, od13, .func (PySem.W.fnOf "_law_order" "_law_order" (defArgs s_law_order) (defBody s_law_order) (defScope s_law_order) .none kV13 dc13 pm13 an13 cd13 ct13), sl13⟩)
    (c13 : PySem.W.codeIn K cd13 "_law_order" = true)
    (k13 : PySem.W.keepIn K (.ref f13) = true)
    (a14 : PySem.W.nsIn K mainGlobals "_law_strikes" = some (some (.ref f14)))
    (l14 : K.lookup f14 = some ⟨oc14, od14, .func (PySem.W.fnOf "_law_strikes" "_law_strikes" (defArgs s_law_strikes) (defBody s_law_strikes) (defScope s_law_strikes) .none kV14 dc14 pm14 an14 cd14 ct14), sl14⟩)
    (c14 : PySem.W.codeIn K cd14 "_law_strikes" = true)
    (k14 : PySem.W.keepIn K (.ref f14) = true)
    (a15 : PySem.W.nsIn K mainGlobals "_law_due" = some (some (.ref f15)))
    (l15 : K.lookup f15 = some ⟨oc15, od15, .func (PySem.W.fnOf "_law_due" "_law_due" (defArgs s_law_due) (defBody s_law_due) (defScope s_law_due) .none kV15 dc15 pm15 an15 cd15 ct15), sl15⟩)
    (c15 : PySem.W.codeIn K cd15 "_law_due" = true)
    (k15 : PySem.W.keepIn K (.ref f15) = true)
    (a16 : PySem.W.nsIn K mainGlobals "_law_is_told" = some (some (.ref f16)))
    (l16 : K.lookup f16 = some ⟨oc16, od16, .func (PySem.W.fnOf "_law_is_told" "_law_is_told" (defArgs s_law_is_told) (defBody s_law_is_told) (defScope s_law_is_told) .none kV16 dc16 pm16 an16 cd16 ct16), sl16⟩)
    (c16 : PySem.W.codeIn K cd16 "_law_is_told" = true)
    (k16 : PySem.W.keepIn K (.ref f16) = true)
    (a17 : PySem.W.nsIn K mainGlobals "_law_apart" = some (some (.ref f17)))
    (l17 : K.lookup f17 = some ⟨oc17, od17, .func (PySem.W.fnOf "_law_apart" "_law_apart" (defArgs s_law_apart) (defBody s_law_apart) (defScope s_law_apart) .none kV17 dc17 pm17 an17 cd17 ct17), sl17⟩)
    (c17 : PySem.W.codeIn K cd17 "_law_apart" = true)
    (k17 : PySem.W.keepIn K (.ref f17) = true)
    (a18 : PySem.W.nsIn K mainGlobals "law" = some (some (.ref f18)))
    (l18 : K.lookup f18 = some ⟨oc18, od18, .func (PySem.W.fnOf "law" "law" (defArgs s_law) (defBody s_law) (defScope s_law) .none kV18 dc18 pm18 an18 cd18 ct18), sl18⟩)
    (c18 : PySem.W.codeIn K cd18 "law" = true)
    (k18 : PySem.W.keepIn K (.ref f18) = true)
    (z_abs : PySem.W.nsIn K mainGlobals "abs" = some none)
    (z_bool : PySem.W.nsIn K mainGlobals "bool" = some none)
    (z_int : PySem.W.nsIn K mainGlobals "int" = some none)
    (z_isinstance : PySem.W.nsIn K mainGlobals "isinstance" = some none)
    (z_len : PySem.W.nsIn K mainGlobals "len" = some none)
    (z_list : PySem.W.nsIn K mainGlobals "list" = some none)
    (z_max : PySem.W.nsIn K mainGlobals "max" = some none)
    (z_range : PySem.W.nsIn K mainGlobals "range" = some none)
    (z_str : PySem.W.nsIn K mainGlobals "str" = some none)
    (z_tuple : PySem.W.nsIn K mainGlobals "tuple" = some none) :
    ∃ T : Txt K mg, T.a_law = fa := by
  have e := hfa.symm.trans (PySem.W.mg_of X G a18)
  cases e
  exact ⟨⟨f0,
    _,
    fun_mk (st := s_Remainder___init__) l0 c0 k0,
    f1,
    _,
    fun_mk (st := s_Remainder_find_partner) l1 c1 k1,
    f2,
    _,
    fun_mk (st := s_strikes_of) l2 c2 k2,
    PySem.W.mg_of X G a2,
    f3,
    _,
    fun_mk (st := s_law_mixed) l3 c3 k3,
    PySem.W.mg_of X G a3,
    f4,
    _,
    fun_mk (st := s_law_start) l4 c4 k4,
    PySem.W.mg_of X G a4,
    f5,
    _,
    fun_mk (st := s_law_take) l5 c5 k5,
    PySem.W.mg_of X G a5,
    f6,
    _,
    fun_mk (st := s_law_same) l6 c6 k6,
    PySem.W.mg_of X G a6,
    f7,
    _,
    fun_mk (st := s_law_mingled) l7 c7 k7,
    PySem.W.mg_of X G a7,
    f8,
    _,
    fun_mk (st := s_law_any) l8 c8 k8,
    PySem.W.mg_of X G a8,
    f9,
    _,
    fun_mk (st := s_law_levels) l9 c9 k9,
    PySem.W.mg_of X G a9,
    f10,
    _,
    fun_mk (st := s_law_ring) l10 c10 k10,
    PySem.W.mg_of X G a10,
    f11,
    _,
    fun_mk (st := s_law_grown) l11 c11 k11,
    PySem.W.mg_of X G a11,
    f12,
    _,
    fun_mk (st := s_law_drawn) l12 c12 k12,
    PySem.W.mg_of X G a12,
    f13,
    _,
    fun_mk (st := s_law_order) l13 c13 k13,
    PySem.W.mg_of X G a13,
    f14,
    _,
    fun_mk (st := s_law_strikes) l14 c14 k14,
    PySem.W.mg_of X G a14,
    f15,
    _,
    fun_mk (st := s_law_due) l15 c15 k15,
    PySem.W.mg_of X G a15,
    f16,
    _,
    fun_mk (st := s_law_is_told) l16 c16 k16,
    PySem.W.mg_of X G a16,
    f17,
    _,
    fun_mk (st := s_law_apart) l17 c17 k17,
    PySem.W.mg_of X G a17,
    fa,
    _,
    fun_mk (st := s_law) l18 c18 k18,
    PySem.W.mg_of X G a18,
    C_Remainder,
    oa_Remainder,
    PySem.W.mg_of X G oa_Remainder,
    ⟨ob_Remainder, oc_Remainder, od_Remainder, oe_Remainder⟩,
    ⟨of_Remainder, a0, i0, og_Remainder⟩,
    oh_Remainder_left,
    oh_Remainder_over_counts,
    oh_Remainder_overs,
    oh_Remainder_under_counts,
    oh_Remainder_unders,
    ⟨a1, i1, k1⟩,
    PySem.W.mg_none_of X G z_abs,
    PySem.W.mg_none_of X G z_bool,
    PySem.W.mg_none_of X G z_int,
    PySem.W.mg_none_of X G z_isinstance,
    PySem.W.mg_none_of X G z_len,
    PySem.W.mg_none_of X G z_list,
    PySem.W.mg_none_of X G z_max,
    PySem.W.mg_none_of X G z_range,
    PySem.W.mg_none_of X G z_str,
    PySem.W.mg_none_of X G z_tuple⟩, rfl⟩
/-- what is to be shown of the mirror -/
abbrev Law : Prop := ∀ ns : List Int, ns.length ≤ 63 → ∃ h, f_law [.frz (ns.map MV.int)] [] = ok (.bl true) h
theorem all_end {l : PySem.W.OpenLaw} {w : World} {K : PySem.W.Frag} {mg : Str → Option Value} {fa : Addr} (L : Law) (hT : ∃ T : Txt K mg, T.a_law = fa) :
    ∃ fd : FuncData, (∀ (s : Shared) (v : Value), BindsTo s fd ⟨[v], []⟩ [("script", v)]) ∧ ∀ base : Heap, K.In base → base.Ns mainGlobals mg → FnOk l.prog w K mg base CX0 9 fa fd ["script"] (spLaw K) := by
  obtain ⟨T, e⟩ := hT
  subst e
  obtain ⟨oc, od, kV, doc, pm, an, cdv, ct, osl, e, lk, hcd⟩ := T.F_law.ex
  refine ⟨T.d_law, fun s v => ?_, fun base _ _ => (ok_law T).imp (law_start L)⟩
  rw [e]
  exact .of_eq rfl
end Mi.k18
open PySem PySem.W PyProof.Rows
set_option maxRecDepth 100000 in
set_option maxHeartbeats 0 in
theorem PySem.Challenge.cw_strikecore_k18_strikes_that_can_be_made_holds : PySem.Challenge.rw_strikecore_k18_strikes_that_can_be_made.Holds := by
  w_on; o_law; k_head; (case hw => w_witness2)
  k_fill
  refine L2.walk_ofK (l := PySem.Challenge.rw_strikecore_k18_strikes_that_can_be_made) (n := 63) (k := 9) (x := "script") (CX := L2.CX0) (sp := Mi.spLaw) rfl (by decide) rfl ⟨rfl, by decide, by decide⟩ (fun w h Y => PySem.W.kIn_of Y) ?F (fun K H a ns hl _ hS => ⟨a, ns, rfl, hS, hl, fun _ => rfl⟩) (fun _ _ _ _ h => h)
  case F =>
    intro w mg fa h KX G hmg
    refine Mi.k18.all_end Mi.k18.main ?T
    refine' Mi.k18.txt_mk KX G hmg ?oa_Remainder ?ob_Remainder ?oc_Remainder ?od_Remainder ?oe_Remainder ?of_Remainder ?og_Remainder ?oh_Remainder_left ?oh_Remainder_over_counts ?oh_Remainder_overs ?oh_Remainder_under_counts ?oh_Remainder_unders ?a0 ?i0 ?l0 ?c0 ?k0 ?a1 ?i1 ?l1 ?c1 ?k1 ?a2 ?l2 ?c2 ?k2 ?a3 ?l3 ?c3 ?k3 ?a4 ?l4 ?c4 ?k4 ?a5 ?l5 ?c5 ?k5 ?a6 ?l6 ?c6 ?k6 ?a7 ?l7 ?c7 ?k7 ?a8 ?l8 ?c8 ?k8 ?a9 ?l9 ?c9 ?k9 ?a10 ?l10 ?c10 ?k10 ?a11 ?l11 ?c11 ?k11 ?a12 ?l12 ?c12 ?k12 ?a13 ?l13 ?c13 ?k13 ?a14 ?l14 ?c14 ?k14 ?a15 ?l15 ?c15 ?k15 ?a16 ?l16 ?c16 ?k16 ?a17 ?l17 ?c17 ?k17 ?a18 ?l18 ?c18 ?k18 ?z_abs ?z_bool ?z_int ?z_isinstance ?z_len ?z_list ?z_max ?z_range ?z_str ?z_tuple
    (case oa_Remainder => k_is)
    (case ob_Remainder => k_is)
    (case oc_Remainder => k_is)
    (case od_Remainder => k_is)
    (case oe_Remainder => k_is)
    (case of_Remainder => k_is)
    (case og_Remainder => k_is)
    (case oh_Remainder_left => k_is)
    (case oh_Remainder_over_counts => k_is)
    (case oh_Remainder_overs => k_is)
    (case oh_Remainder_under_counts => k_is)
    (case oh_Remainder_unders => k_is)
    (case a0 => k_is)
    (case i0 => k_is)
    (case l0 => k_is)
    (case c0 => k_is)
    (case k0 => k_is)
    (case a1 => k_is)
    (case i1 => k_is)
    (case l1 => k_is)
    (case c1 => k_is)
    (case k1 => k_is)
    (case a2 => k_is)
    (case l2 => k_is)
    (case c2 => k_is)
    (case k2 => k_is)
    (case a3 => k_is)
    (case l3 => k_is)
    (case c3 => k_is)
    (case k3 => k_is)
    (case a4 => k_is)
    (case l4 => k_is)
    (case c4 => k_is)
    (case k4 => k_is)
    (case a5 => k_is)
    (case l5 => k_is)
    (case c5 => k_is)
    (case k5 => k_is)
    (case a6 => k_is)
    (case l6 => k_is)
    (case c6 => k_is)
    (case k6 => k_is)
    (case a7 => k_is)
    (case l7 => k_is)
    (case c7 => k_is)
    (case k7 => k_is)
    (case a8 => k_is)
    (case l8 => k_is)
    (case c8 => k_is)
    (case k8 => k_is)
    (case a9 => k_is)
    (case l9 => k_is)
    (case c9 => k_is)
    (case k9 => k_is)
    (case a10 => k_is)
    (case l10 => k_is)
    (case c10 => k_is)
    (case k10 => k_is)
    (case a11 => k_is)
    (case l11 => k_is)
    (case c11 => k_is)
    (case k11 => k_is)
    (case a12 => k_is)
    (case l12 => k_is)
    (case c12 => k_is)
    (case k12 => k_is)
    (case a13 => k_is)
    (case l13 => k_is)
    (case c13 => k_is)
    (case k13 => k_is)
    (case a14 => k_is)
    (case l14 => k_is)
    (case c14 => k_is)
    (case k14 => k_is)
    (case a15 => k_is)
    (case l15 => k_is)
    (case c15 => k_is)
    (case k15 => k_is)
    (case a16 => k_is)
    (case l16 => k_is)
    (case c16 => k_is)
    (case k16 => k_is)
    (case a17 => k_is)
    (case l17 => k_is)
    (case c17 => k_is)
    (case k17 => k_is)
    (case a18 => k_is)
    (case l18 => k_is)
    (case c18 => k_is)
    (case k18 => k_is)
    (case z_abs => k_is)
    (case z_bool => k_is)
    (case z_int => k_is)
    (case z_isinstance => k_is)
    (case z_len => k_is)
    (case z_list => k_is)
    (case z_max => k_is)
    (case z_range => k_is)
    (case z_str => k_is)
    (case z_tuple => k_is)
