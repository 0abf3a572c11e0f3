import PyProof.Rows.All
import Wide.All
import OpenK.AllK
import Wide.FinOn
import HandS.ForMost
import HandS.IsInst
import HandS.Style
import HandS.Wide
import HandS.TupAny
import HandS.Flow
import HandS.Iter
import HandS.Defaults
import HandS.SortRule
import HandS.Conv
import HandS.SortInts
import KE.GoesEnum
import HandS.DictComp
import HandS.WideBits
import HandS.TryOnly
import HandS.Deep
import HandS.More
import HandS.WordsExc
import HandS.ExcField
import KE.KExcIs
import KE.KExcSuper
import HandS.ExcInit
import KE.KExcLine
import HandS.SetFor
import PyProof.AutoSeq1
import KE.KRevSl
import HandS.TupMul
import KE.GoesMore
import HandS.Zip
import HandS.List
import KE.KDictDisplayH
import HandS.Rev
import KE.KSortTupG
import KE.KTupSum
import PySem.Challenge.RW_strikecore_k59_whole_lefschetz_of_led_ma
set_option Elab.async false
set_option linter.all false
set_option maxRecDepth 100000
set_option maxHeartbeats 2000000
namespace Mi
open PySem L2
inductive MV where
  | non | bl (b : Bool) | int (i : Int) | str (x : Str) | tup (xs : List MV) | ktp (xs : List MV) | fls (xs : List MV) | frz (xs : List MV) | ref (l : Nat) | exc (a : Addr) (d : Option Addr) (fns : List Str) (xs : List MV) | fdt (ks : List (List Key)) (xs : List MV)
inductive MO where
  | dead | lst (xs : List MV) | dK (kvs : List (Key × MV)) | dT (kvs : List (List Key × MV)) | ins (cn : Str) (fs : List (Str × MV))
abbrev MH := List MO
abbrev MS := List (Option MV)
structure MX where
  cls : Str
  flds : List (Str × MV)
inductive Out (α : Type) where
  | ok (a : α) (h : MH) | ex (e : MX) (h : MH)
abbrev Res (α : Type) := Option (Out α)
abbrev MM (α : Type) := MS → MH → Res α
abbrev ME := MM MV
@[simp ↓] def Res.bnd {α β : Type} (r : Res α) (k : α → MH → Res β) : Res β := match r with
  | none => none
  | some (.ok a h) => k a h
  | some (.ex e h) => some (.ex e h)
inductive OutS where
  | nx (s : MS) (h : MH) | ret (x : MV) (h : MH) | brk (s : MS) (h : MH) | cnt (s : MS) (h : MH) | ex (e : MX) (h : MH)
abbrev MT := MS → MH → Option OutS
abbrev Phi := Nat → Option Addr
structure Wd where
  f : Phi
  n : Nat
  H : Hp
  hid : Addr → Prop
def Stab (W : Wd) (p : Addr) : Prop := (∀ l, W.f l ≠ some p) ∧ ¬ W.hid p
mutual
inductive RV (K : PySem.W.Frag) (W : Wd) : MV → V → Prop
  | non : RV K W .non .non
  | bl (b : Bool) : RV K W (.bl b) (.bl b)
  | int (i : Int) : RV K W (.int i) (.int i)
  | str (x : Str) : RV K W (.str x) (.str x)
  | ref {l : Nat} {a : Addr} (lt : l < W.n) (e : ∀ b, W.f l = some b → b = a) : RV K W (.ref l) (.ref a)
  | tup {p : Addr} {xs : List MV} {vs : List V} (s : Stab W p) (e : W.H p = some (.tup vs)) (r : RVs K W xs vs) : RV K W (.tup xs) (.ref p)
  | tupK {p : Addr} {xs : List MV} {vs : List V} (e : ∀ H, SqT K H p vs) (r : RVs K W xs vs) : RV K W (.ktp xs) (.ref p)
  | fls {p : Addr} {xs : List MV} {vs : List V} (s : Stab W p) (e : W.H p = some (.lst vs)) (r : RVs K W xs vs) : RV K W (.fls xs) (.ref p)
  | frz {p : Addr} {xs : List MV} {vs : List V} (s : Stab W p) (e : Rd W.H p (.lst vs)) (r : RVs K W xs vs) : RV K W (.frz xs) (.ref p)
  | frzK {p : Addr} {xs : List MV} {vs : List V} (e : ∀ H, SqL K H p vs) (r : RVs K W xs vs) : RV K W (.frz xs) (.ref p)
  | exc0 {a : Addr} {fns : List Str} : RV K W (.exc a none fns []) (.ref a)
  | excD {a p : Addr} {fns : List Str} {xs : List MV} {vs : List V} (s : Stab W p) (e : W.H p = some (.xd (fns.zip vs))) (r : RVs K W xs vs) : RV K W (.exc a (some p) fns xs) (.ref a)
  | fdt {p : Addr} {o : Obj} {ks : List (List Key)} {xs : List MV} {vs : List V} (s : Stab W p) (e : W.H p = some (.frz o (.dT (ks.zip vs)))) (r : RVs K W xs vs) : RV K W (.fdt ks xs) (.ref p)
inductive RVs (K : PySem.W.Frag) (W : Wd) : List MV → List V → Prop
  | nil : RVs K W [] []
  | cons {x : MV} {v : V} {xs : List MV} {vs : List V} (r : RV K W x v) (t : RVs K W xs vs) : RVs K W (x :: xs) (v :: vs)
end
inductive RKV (K : PySem.W.Frag) (W : Wd) {κ : Type} : List (κ × MV) → List (κ × V) → Prop
  | nil : RKV K W [] []
  | cons {k : κ} {x : MV} {v : V} {xs : List (κ × MV)} {vs : List (κ × V)} (r : RV K W x v) (t : RKV K W xs vs) : RKV K W ((k, x) :: xs) ((k, v) :: vs)
def RO (K : PySem.W.Frag) (W : Wd) : MO → Addr → Prop
  | .dead, _ => False
  | .lst xs, a => ∃ vs, W.H a = some (.lst vs) ∧ RVs K W xs vs
  | .dK kvs, a => ∃ kws, W.H a = some (.dK kws) ∧ RKV K W kvs kws
  | .dT kvs, a => ∃ kws, W.H a = some (.dT kws) ∧ RKV K W kvs kws
  | .ins cn fs, a => ∃ C dx kws, PySem.W.nsIn K mainGlobals cn = some (some (.ref C)) ∧ W.H a = some (.ins C dx kws) ∧ RKV K W fs kws
structure Sim (K : PySem.W.Frag) (W : Wd) (h : MH) : Prop where
  n : W.n = h.length
  lt : ∀ l a, W.f l = some a → l < h.length
  inj : ∀ i j a, W.f i = some a → W.f j = some a → i = j
  obj : ∀ l a, W.f l = some a → ∃ o, h[l]? = some o ∧ RO K W o a
  live : ∀ l o, h[l]? = some o → o ≠ .dead → ∃ a, W.f l = some a
  nhid : ∀ l a, W.f l = some a → ¬ W.hid a
  hids : ∀ p, W.hid p → ∃ u, W.H p = some u ∧ ∀ vs, u ≠ .tup vs
structure Ext (W W' : Wd) : Prop where
  le : W.n ≤ W'.n
  agree : ∀ l, l < W.n → W'.f l = W.f l ∨ W'.f l = none
  frame : ∀ p o, Stab W p → W.H p = some o → W'.H p = some o ∧ Stab W' p
  hidf : ∀ p o, W.hid p → W.H p = some o → W'.H p = some o ∧ W'.hid p
theorem Ext.refl (W : Wd) : Ext W W := ⟨Nat.le_refl _, fun _ _ => .inl rfl, fun _ _ s e => ⟨e, s⟩, fun _ _ s e => ⟨e, s⟩⟩
theorem Ext.trans {W W1 W2 : Wd} (a : Ext W W1) (b : Ext W1 W2) : Ext W W2 where
  le := Nat.le_trans a.le b.le
  agree := fun l hl => by
    rcases b.agree l (Nat.lt_of_lt_of_le hl a.le) with e | e
    · rw [e]
      exact a.agree l hl
    · exact .inr e
  frame := fun p o s e => by
    obtain ⟨e1, s1⟩ := a.frame p o s e
    exact b.frame p o s1 e1
  hidf := fun p o s e => by
    obtain ⟨e1, s1⟩ := a.hidf p o s e
    exact b.hidf p o s1 e1
theorem Ext.rd {W W' : Wd} (x : Ext W W') {p : Addr} {o : HO} (s : Stab W p) (e : Rd W.H p o) : Rd W'.H p o ∧ Stab W' p := by
  rcases e with e | ⟨u, e⟩
  · exact ⟨.inl (x.frame p _ s e).1, (x.frame p _ s e).2⟩
  · exact ⟨.inr ⟨u, (x.frame p _ s e).1⟩, (x.frame p _ s e).2⟩
section
variable {K : PySem.W.Frag} {W W' : Wd}
mutual
theorem RV.mono (x : Ext W W') : ∀ {m : MV} {v : V}, RV K W m v → RV K W' m v
  | _, _, .non => .non
  | _, _, .bl b => .bl b
  | _, _, .int i => .int i
  | _, _, .str s => .str s
  | _, _, .ref lt e => .ref (Nat.lt_of_lt_of_le lt x.le) fun b hb => by
    rcases x.agree _ lt with q | q
    · exact e b (q ▸ hb)
    · rw [q] at hb
      cases hb
  | _, _, .tup s e r => .tup (x.frame _ _ s e).2 (x.frame _ _ s e).1 (RVs.mono x r)
  | _, _, .tupK e r => .tupK e (RVs.mono x r)
  | _, _, .fls s e r => .fls (x.frame _ _ s e).2 (x.frame _ _ s e).1 (RVs.mono x r)
  | _, _, .frz s e r => .frz (x.rd s e).2 (x.rd s e).1 (RVs.mono x r)
  | _, _, .frzK e r => .frzK e (RVs.mono x r)
  | _, _, .exc0 => .exc0
  | _, _, .excD s e r => .excD (x.frame _ _ s e).2 (x.frame _ _ s e).1 (RVs.mono x r)
  | _, _, .fdt s e r => .fdt (x.frame _ _ s e).2 (x.frame _ _ s e).1 (RVs.mono x r)
theorem RVs.mono (x : Ext W W') : ∀ {ms : List MV} {vs : List V}, RVs K W ms vs → RVs K W' ms vs
  | _, _, .nil => .nil
  | _, _, .cons r t => .cons (RV.mono x r) (RVs.mono x t)
end
theorem RKV.mono {κ : Type} (x : Ext W W') : ∀ {ms : List (κ × MV)} {vs : List (κ × V)}, RKV K W ms vs → RKV K W' ms vs
  | _, _, .nil => .nil
  | _, _, .cons r t => .cons (r.mono x) (RKV.mono x t)
theorem RVs.length : ∀ {xs : List MV} {vs : List V}, RVs K W xs vs → xs.length = vs.length
  | _, _, .nil => rfl
  | _, _, .cons _ t => by rw [List.length_cons, List.length_cons, RVs.length t]
theorem RVs.get : ∀ {xs : List MV} {vs : List V} {i : Nat} {x : MV}, RVs K W xs vs → xs[i]? = some x → ∃ v, vs[i]? = some v ∧ RV K W x v
  | _, _, _, _, .nil, e => by simp at e
  | _, _, 0, _, .cons r _, e => by
    simp at e
    subst e
    exact ⟨_, rfl, r⟩
  | _, _, i + 1, _, .cons _ t, e => by
    obtain ⟨v, a, b⟩ := RVs.get (i := i) t (by simpa using e)
    exact ⟨v, by simpa using a, b⟩
theorem RVs.append : ∀ {xs ys : List MV} {vs ws : List V}, RVs K W xs vs → RVs K W ys ws → RVs K W (xs ++ ys) (vs ++ ws)
  | _, _, _, _, .nil, s => s
  | _, _, _, _, .cons r t, s => .cons r (RVs.append t s)
theorem RVs.one {x : MV} {v : V} (r : RV K W x v) : RVs K W [x] [v] := .cons r .nil
theorem RVs.take : ∀ {xs : List MV} {vs : List V} (n : Nat), RVs K W xs vs → RVs K W (xs.take n) (vs.take n)
  | _, _, 0, _ => .nil
  | _, _, _ + 1, .nil => .nil
  | _, _, n + 1, .cons r t => .cons r (RVs.take n t)
theorem RVs.drop : ∀ {xs : List MV} {vs : List V} (n : Nat), RVs K W xs vs → RVs K W (xs.drop n) (vs.drop n)
  | _, _, 0, r => r
  | _, _, _ + 1, .nil => .nil
  | _, _, n + 1, .cons _ t => RVs.drop n t
theorem RVs.set {x : MV} {v : V} (r : RV K W x v) : ∀ {xs : List MV} {vs : List V} (i : Nat), RVs K W xs vs → RVs K W (xs.set i x) (vs.set i v)
  | _, _, _, .nil => .nil
  | _, _, 0, .cons _ t => .cons r t
  | _, _, i + 1, .cons q t => .cons q (RVs.set r i t)
theorem RVs.eraseIdx : ∀ {xs : List MV} {vs : List V} (i : Nat), RVs K W xs vs → RVs K W (xs.eraseIdx i) (vs.eraseIdx i)
  | _, _, _, .nil => .nil
  | _, _, 0, .cons _ t => t
  | _, _, i + 1, .cons q t => .cons q (RVs.eraseIdx i t)
theorem RVs.reverse : ∀ {xs : List MV} {vs : List V}, RVs K W xs vs → RVs K W xs.reverse vs.reverse
  | _, _, .nil => .nil
  | _, _, .cons r t => by
    rw [List.reverse_cons, List.reverse_cons]
    exact (RVs.reverse t).append (.one r)
theorem RVs.nil_iff {xs : List MV} {vs : List V} (r : RVs K W xs vs) : xs.isEmpty = vs.isEmpty := by
  cases r <;> rfl
theorem RO.mono {o : MO} {a : Addr} (x : Ext W W') (r : RO K W o a) (e : W'.H a = W.H a) : RO K W' o a := by
  cases o with
  | dead => exact r
  | lst xs =>
    obtain ⟨vs, q, t⟩ := r
    exact ⟨vs, e.trans q, t.mono x⟩
  | dK kvs =>
    obtain ⟨vs, q, t⟩ := r
    exact ⟨vs, e.trans q, t.mono x⟩
  | dT kvs =>
    obtain ⟨vs, q, t⟩ := r
    exact ⟨vs, e.trans q, t.mono x⟩
  | ins cn kvs =>
    obtain ⟨C, dx, vs, hC, q, t⟩ := r
    exact ⟨C, dx, vs, hC, e.trans q, t.mono x⟩
theorem RO.has {o : MO} {a : Addr} (r : RO K W o a) : ∃ u, W.H a = some u := by
  cases o with
  | dead => exact r.elim
  | lst xs =>
    obtain ⟨vs, q, _⟩ := r
    exact ⟨_, q⟩
  | dK kvs =>
    obtain ⟨vs, q, _⟩ := r
    exact ⟨_, q⟩
  | dT kvs =>
    obtain ⟨vs, q, _⟩ := r
    exact ⟨_, q⟩
  | ins cn kvs =>
    obtain ⟨C, dx, vs, hC, q, _⟩ := r
    exact ⟨_, q⟩
theorem Sim.has {h : MH} (S : Sim K W h) {l : Nat} {a : Addr} (e : W.f l = some a) : ∃ u, W.H a = some u := by
  obtain ⟨o, _, r⟩ := S.obj l a e
  exact r.has
theorem Sim.fresh {h : MH} (S : Sim K W h) {p : Addr} (hp : W.H p = none) : Stab W p := ⟨fun l e => (by
  obtain ⟨u, q⟩ := S.has e
  rw [hp] at q
  cases q), fun hh => by
  obtain ⟨u, e, _⟩ := S.hids p hh
  rw [hp] at e
  cases e⟩
def Wd.put (W : Wd) (p : Addr) (o : HO) : Wd := ⟨W.f, W.n, upd W.H p o, W.hid⟩
theorem Ext.put {h : MH} (S : Sim K W h) {p : Addr} {o : HO} (hp : W.H p = none) : Ext W (W.put p o) := ⟨Nat.le_refl _, fun _ _ => .inl rfl, fun q u s e => ⟨by
  show upd W.H p o q = some u
  rw [upd_ne (ne_of_none e hp)]
  exact e, s⟩, fun q u s e => ⟨by
  show upd W.H p o q = some u
  rw [upd_ne (ne_of_none e hp)]
  exact e, s⟩⟩
theorem Sim.put {h : MH} (S : Sim K W h) {p : Addr} {o : HO} (hp : W.H p = none) : Sim K (W.put p o) h where
  n := S.n
  lt := S.lt
  inj := S.inj
  obj := fun l a e => by
    obtain ⟨u, e1, r⟩ := S.obj l a e
    refine ⟨u, e1, r.mono (Ext.put S hp) ?_⟩
    show upd W.H p o a = W.H a
    obtain ⟨u2, q⟩ := r.has
    rw [upd_ne (ne_of_none q hp)]
  live := S.live
  nhid := S.nhid
  hids := fun q hq => by
    obtain ⟨u, e, n⟩ := S.hids q hq
    refine ⟨u, ?_, n⟩
    show upd W.H p o q = some u
    rw [upd_ne (ne_of_none e hp)]
    exact e
def Wd.add (W : Wd) (p : Addr) (o : HO) : Wd := ⟨fun l => if l = W.n then some p else W.f l, W.n + 1, upd W.H p o, W.hid⟩
theorem Ext.add {h : MH} (S : Sim K W h) {p : Addr} {o : HO} (hp : W.H p = none) : Ext W (W.add p o) where
  le := Nat.le_succ _
  agree := fun l hl => .inl (if_neg (Nat.ne_of_lt hl))
  frame := fun q u s e => by
    have hq : q ≠ p := ne_of_none e hp
    refine ⟨?_, fun l z => ?_, s.2⟩
    · show upd W.H p o q = some u
      rw [upd_ne hq]
      exact e
    · have z' : (if l = W.n then some p else W.f l) = some q := z
      by_cases hl : l = W.n
      · rw [if_pos hl] at z'
        exact hq (Option.some.inj z').symm
      · rw [if_neg hl] at z'
        exact s.1 l z'
  hidf := fun q u s e => ⟨by
    show upd W.H p o q = some u
    rw [upd_ne (ne_of_none e hp)]
    exact e, s⟩
theorem Sim.add {h : MH} {m : MO} (S : Sim K W h) {p : Addr} {o : HO} (hp : W.H p = none) (hr : RO K (W.add p o) m p) : Sim K (W.add p o) (h ++ [m]) where
  n := by
    show W.n + 1 = _
    rw [List.length_append, S.n]
    rfl
  lt := fun l a e => by
    have e' : (if l = W.n then some p else W.f l) = some a := e
    rw [List.length_append]
    show l < h.length + 1
    by_cases hl : l = W.n
    · rw [hl, S.n]
      exact Nat.lt_succ_self _
    · rw [if_neg hl] at e'
      exact Nat.lt_succ_of_lt (S.lt l a e')
  inj := fun i j a ei ej => by
    have ei' : (if i = W.n then some p else W.f i) = some a := ei
    have ej' : (if j = W.n then some p else W.f j) = some a := ej
    have no : ∀ k, W.f k = some p → False := fun k e => (S.fresh hp).1 k e
    by_cases hi : i = W.n
    · by_cases hj : j = W.n
      · rw [hi, hj]
      · rw [if_pos hi] at ei'
        rw [if_neg hj, ← ei'] at ej'
        exact (no j ej').elim
    · rw [if_neg hi] at ei'
      by_cases hj : j = W.n
      · rw [if_pos hj] at ej'
        rw [← ej'] at ei'
        exact (no i ei').elim
      · rw [if_neg hj] at ej'
        exact S.inj i j a ei' ej'
  obj := fun l a e => by
    have e' : (if l = W.n then some p else W.f l) = some a := e
    by_cases hl : l = W.n
    · rw [if_pos hl] at e'
      cases e'
      exact ⟨m, by rw [hl, S.n]; simp, hr⟩
    · rw [if_neg hl] at e'
      obtain ⟨u, e1, r⟩ := S.obj l a e'
      refine ⟨u, by rw [List.getElem?_append_left (S.lt l a e')]; exact e1, r.mono (Ext.add S hp) ?_⟩
      obtain ⟨u2, q⟩ := r.has
      show upd W.H p o a = W.H a
      rw [upd_ne (ne_of_none q hp)]
  live := fun l u e d => by
    by_cases hl : l = W.n
    · exact ⟨p, if_pos hl⟩
    · have hlt : l < h.length := by
        have := (List.getElem?_eq_some_iff.mp e).1
        rw [List.length_append] at this
        have t : l < h.length + 1 := this
        have := S.n
        omega
      rw [List.getElem?_append_left hlt] at e
      obtain ⟨a, ea⟩ := S.live l u e d
      exact ⟨a, (if_neg hl).trans ea⟩
  nhid := fun l a e => by
    have e' : (if l = W.n then some p else W.f l) = some a := e
    by_cases hl : l = W.n
    · rw [if_pos hl] at e'
      cases e'
      exact (S.fresh hp).2
    · rw [if_neg hl] at e'
      exact S.nhid l a e'
  hids := fun q hq => by
    obtain ⟨u, e, n⟩ := S.hids q hq
    refine ⟨u, ?_, n⟩
    show upd W.H p o q = some u
    rw [upd_ne (ne_of_none e hp)]
    exact e
def Wd.wr (W : Wd) (p : Addr) (o : HO) : Wd := ⟨W.f, W.n, upd W.H p o, W.hid⟩
theorem Ext.wr {h : MH} (S : Sim K W h) {l : Nat} {p : Addr} {o : HO} (e : W.f l = some p) : Ext W (W.wr p o) := ⟨Nat.le_refl _, fun _ _ => .inl rfl, fun q u s eq => ⟨by
  show upd W.H p o q = some u
  rw [upd_ne (fun z => s.1 l (by rw [z]; exact e))]
  exact eq, s⟩, fun q u s eq => ⟨by
  show upd W.H p o q = some u
  rw [upd_ne (fun z => S.nhid l p e (by rw [← z]; exact s))]
  exact eq, s⟩⟩
theorem Sim.wr {h : MH} {m : MO} (S : Sim K W h) {l : Nat} {p : Addr} {o : HO} (e : W.f l = some p) (hr : RO K (W.wr p o) m p) : Sim K (W.wr p o) (h.set l m) where
  n := by
    rw [List.length_set]
    exact S.n
  lt := fun j a ej => by
    rw [List.length_set]
    exact S.lt j a ej
  inj := S.inj
  obj := fun j a ej => by
    have hl := S.lt l p e
    by_cases hj : j = l
    · subst hj
      have ej' : W.f j = some a := ej
      rw [e] at ej'
      cases ej'
      exact ⟨m, List.getElem?_set_self hl, hr⟩
    · obtain ⟨u, e1, r⟩ := S.obj j a ej
      refine ⟨u, by rw [List.getElem?_set_ne (Ne.symm hj)]; exact e1, r.mono (Ext.wr S e) ?_⟩
      show upd W.H p o a = W.H a
      rw [upd_ne fun z => hj (S.inj j l p (by rw [← z]; exact ej) e)]
  live := fun j u ej d => by
    by_cases hj : j = l
    · exact ⟨p, by rw [hj]; exact e⟩
    · rw [List.getElem?_set_ne (Ne.symm hj)] at ej
      exact S.live j u ej d
  nhid := S.nhid
  hids := fun q hq => by
    obtain ⟨u, e1, n⟩ := S.hids q hq
    refine ⟨u, ?_, n⟩
    show upd W.H p o q = some u
    rw [upd_ne fun z => S.nhid l p e (by rw [← z]; exact hq)]
    exact e1
def Wd.kill (W : Wd) (l : Nat) : Wd := ⟨fun j => if j = l then none else W.f j, W.n, W.H, W.hid⟩
theorem Wd.kill_some {l j : Nat} {a : Addr} (e : (W.kill l).f j = some a) : j ≠ l ∧ W.f j = some a := by
  have e' : (if j = l then none else W.f j) = some a := e
  by_cases hj : j = l
  · rw [if_pos hj] at e'
    cases e'
  · rw [if_neg hj] at e'
    exact ⟨hj, e'⟩
theorem Ext.kill (W : Wd) (l : Nat) : Ext W (W.kill l) := ⟨Nat.le_refl _, fun j _ => by
  by_cases hj : j = l
  · exact .inr (if_pos hj)
  · exact .inl (if_neg hj), fun q u s eq => ⟨eq, fun j z => s.1 j (Wd.kill_some z).2, s.2⟩, fun q u s eq => ⟨eq, s⟩⟩
theorem Sim.kill {h : MH} (S : Sim K W h) (l : Nat) : Sim K (W.kill l) (h.set l .dead) where
  n := by
    rw [List.length_set]
    exact S.n
  lt := fun j a ej => by
    rw [List.length_set]
    exact S.lt j a (Wd.kill_some ej).2
  inj := fun i j a ei ej => S.inj i j a (Wd.kill_some ei).2 (Wd.kill_some ej).2
  obj := fun j a ej => by
    obtain ⟨hj, e1⟩ := Wd.kill_some ej
    obtain ⟨u, e2, r⟩ := S.obj j a e1
    exact ⟨u, by rw [List.getElem?_set_ne (Ne.symm hj)]; exact e2, r.mono (Ext.kill W l) rfl⟩
  live := fun j u ej d => by
    by_cases hj : j = l
    · subst hj
      have hlt : j < h.length := by
        have := (List.getElem?_eq_some_iff.mp ej).1
        rw [List.length_set] at this
        exact this
      rw [List.getElem?_set_self hlt] at ej
      exact absurd (Option.some.inj ej).symm d
    · rw [List.getElem?_set_ne (Ne.symm hj)] at ej
      obtain ⟨a, ea⟩ := S.live j u ej d
      exact ⟨a, (if_neg hj).trans ea⟩
  nhid := fun j a ej => S.nhid j a (Wd.kill_some ej).2
  hids := S.hids
def Wd.hide (W : Wd) (p : Addr) (o : HO) : Wd := ⟨W.f, W.n, upd W.H p o, fun q => q = p ∨ W.hid q⟩
theorem Ext.hide {h : MH} (S : Sim K W h) {p : Addr} {o : HO} (hp : W.H p = none) : Ext W (W.hide p o) := ⟨Nat.le_refl _, fun _ _ => .inl rfl, fun q u s e => ⟨by
  show upd W.H p o q = some u
  rw [upd_ne (ne_of_none e hp)]
  exact e, s.1, fun z => z.elim (fun y => ne_of_none e hp y) s.2⟩, fun q u s e => ⟨by
  show upd W.H p o q = some u
  rw [upd_ne (ne_of_none e hp)]
  exact e, .inr s⟩⟩
theorem Sim.hide {h : MH} (S : Sim K W h) {p : Addr} {o : HO} (hp : W.H p = none) (ho : ∀ vs, o ≠ .tup vs := by intro vs z; cases z) : Sim K (W.hide p o) h where
  n := S.n
  lt := S.lt
  inj := S.inj
  obj := fun l a e => by
    obtain ⟨u, e1, r⟩ := S.obj l a e
    refine ⟨u, e1, r.mono (Ext.hide S hp) ?_⟩
    show upd W.H p o a = W.H a
    obtain ⟨u2, q⟩ := r.has
    rw [upd_ne (ne_of_none q hp)]
  live := S.live
  nhid := fun l a e z => z.elim (fun y => (S.fresh hp).1 l (by rw [← y]; exact e)) (S.nhid l a e)
  hids := fun q hq => by
    by_cases hz : q = p
    · exact ⟨o, by rw [hz]; exact upd_same, ho⟩
    · obtain ⟨u, e1, n⟩ := S.hids q (hq.elim (fun y => absurd y hz) id)
      exact ⟨u, (upd_ne hz).trans e1, n⟩
theorem Ext.wrh {h : MH} {p : Addr} {o : HO} (hp : W.hid p) (S : Sim K W h) {W0 : Wd} (x : Ext W0 W) (h0 : W0.H p = none) : Ext W0 (W.wr p o) := ⟨x.le, x.agree, fun q u s e => ⟨by
  show upd W.H p o q = some u
  rw [upd_ne (ne_of_none e h0)]
  exact (x.frame q u s e).1, (x.frame q u s e).2⟩, fun q u s e => ⟨by
  show upd W.H p o q = some u
  rw [upd_ne (ne_of_none e h0)]
  exact (x.hidf q u s e).1, (x.hidf q u s e).2⟩⟩
theorem rd_wrh {p q : Addr} {o u : HO} (hp : W.hid p) (s : Stab W q) (e : Rd W.H q u) : Rd (W.wr p o).H q u := by
  have ne : q ≠ p := fun z => s.2 (by rw [z]; exact hp)
  rcases e with e | ⟨z, e⟩
  · exact .inl ((upd_ne ne).trans e)
  · exact .inr ⟨z, (upd_ne ne).trans e⟩
mutual
/-- what nobody sees may change -/
theorem RV.wrh {p : Addr} {o : HO} (hp : W.hid p) : ∀ {m : MV} {v : V}, RV K W m v → RV K (W.wr p o) m v
  | _, _, .non => .non
  | _, _, .bl b => .bl b
  | _, _, .int i => .int i
  | _, _, .str s => .str s
  | _, _, .ref lt e => .ref lt e
  | _, _, .tup s e r => .tup s ((upd_ne fun z => s.2 (by rw [z]; exact hp)).trans e) (RVs.wrh hp r)
  | _, _, .tupK e r => .tupK e (RVs.wrh hp r)
  | _, _, .fls s e r => .fls s ((upd_ne fun z => s.2 (by rw [z]; exact hp)).trans e) (RVs.wrh hp r)
  | _, _, .frz s e r => .frz s (rd_wrh hp s e) (RVs.wrh hp r)
  | _, _, .frzK e r => .frzK e (RVs.wrh hp r)
  | _, _, .exc0 => .exc0
  | _, _, .excD s e r => .excD s ((upd_ne fun z => s.2 (by rw [z]; exact hp)).trans e) (RVs.wrh hp r)
  | _, _, .fdt s e r => .fdt s ((upd_ne fun z => s.2 (by rw [z]; exact hp)).trans e) (RVs.wrh hp r)
theorem RVs.wrh {p : Addr} {o : HO} (hp : W.hid p) : ∀ {ms : List MV} {vs : List V}, RVs K W ms vs → RVs K (W.wr p o) ms vs
  | _, _, .nil => .nil
  | _, _, .cons r t => .cons (RV.wrh hp r) (RVs.wrh hp t)
end
theorem RKV.wrh {κ : Type} {p : Addr} {o : HO} (hp : W.hid p) : ∀ {ms : List (κ × MV)} {vs : List (κ × V)}, RKV K W ms vs → RKV K (W.wr p o) ms vs
  | _, _, .nil => .nil
  | _, _, .cons r t => .cons (r.wrh hp) (RKV.wrh hp t)
theorem Sim.wrh {h : MH} {p : Addr} {o : HO} (hp : W.hid p) (S : Sim K W h) (ho : ∀ vs, o ≠ .tup vs := by intro vs z; cases z) : Sim K (W.wr p o) h where
  n := S.n
  lt := S.lt
  inj := S.inj
  obj := fun l a e => by
    obtain ⟨u, e1, r⟩ := S.obj l a e
    have ne : a ≠ p := fun z => S.nhid l a e (by rw [z]; exact hp)
    have hH : (W.wr p o).H a = W.H a := upd_ne ne
    refine ⟨u, e1, ?_⟩
    cases u with
    | dead => exact r.elim
    | lst xs =>
      obtain ⟨vs, q, t⟩ := r
      exact ⟨vs, hH.trans q, t.wrh hp⟩
    | dK xs =>
      obtain ⟨vs, q, t⟩ := r
      exact ⟨vs, hH.trans q, t.wrh hp⟩
    | dT xs =>
      obtain ⟨vs, q, t⟩ := r
      exact ⟨vs, hH.trans q, t.wrh hp⟩
    | ins cn xs =>
      obtain ⟨C, dx, vs, hC, q, t⟩ := r
      exact ⟨C, dx, vs, hC, hH.trans q, t.wrh hp⟩
  live := S.live
  nhid := S.nhid
  hids := fun q hq => by
    by_cases hz : q = p
    · exact ⟨o, by rw [hz]; exact upd_same, ho⟩
    · obtain ⟨u, e1, n⟩ := S.hids q hq
      exact ⟨u, (upd_ne hz).trans e1, n⟩
def Wd.bare (W : Wd) (p : Addr) : Wd := ⟨W.f, W.n, fun b => if b = p then none else W.H b, fun q => q ≠ p ∧ W.hid q⟩
theorem Wd.bare_upd {p : Addr} {o : HO} (e : W.H p = some o) : upd (W.bare p).H p o = W.H := by
  funext b
  by_cases hb : b = p
  · rw [hb, upd_same, e]
  · rw [upd_ne hb]
    exact if_neg hb
theorem Wd.bare_ne {p q : Addr} (h : q ≠ p) : (W.bare p).H q = W.H q := if_neg h
theorem rd_bare {p q : Addr} {u : HO} (h : q ≠ p) (e : Rd W.H q u) : Rd (W.bare p).H q u := by
  rcases e with e | ⟨z, e⟩
  · exact .inl ((Wd.bare_ne h).trans e)
  · exact .inr ⟨z, (Wd.bare_ne h).trans e⟩
mutual
theorem RV.bare {p : Addr} (hp : W.hid p) : ∀ {m : MV} {v : V}, RV K W m v → RV K (W.bare p) m v
  | _, _, .non => .non
  | _, _, .bl b => .bl b
  | _, _, .int i => .int i
  | _, _, .str s => .str s
  | _, _, .ref lt e => .ref lt e
  | _, _, .tup s e r => .tup ⟨s.1, fun z => s.2 z.2⟩ ((Wd.bare_ne fun z => s.2 (by rw [z]; exact hp)).trans e) (RVs.bare hp r)
  | _, _, .tupK e r => .tupK e (RVs.bare hp r)
  | _, _, .fls s e r => .fls ⟨s.1, fun z => s.2 z.2⟩ ((Wd.bare_ne fun z => s.2 (by rw [z]; exact hp)).trans e) (RVs.bare hp r)
  | _, _, .frz s e r => .frz ⟨s.1, fun z => s.2 z.2⟩ (rd_bare (fun z => s.2 (by rw [z]; exact hp)) e) (RVs.bare hp r)
  | _, _, .frzK e r => .frzK e (RVs.bare hp r)
  | _, _, .exc0 => .exc0
  | _, _, .excD s e r => .excD ⟨s.1, fun z => s.2 z.2⟩ ((Wd.bare_ne fun z => s.2 (by rw [z]; exact hp)).trans e) (RVs.bare hp r)
  | _, _, .fdt s e r => .fdt ⟨s.1, fun z => s.2 z.2⟩ ((Wd.bare_ne fun z => s.2 (by rw [z]; exact hp)).trans e) (RVs.bare hp r)
theorem RVs.bare {p : Addr} (hp : W.hid p) : ∀ {ms : List MV} {vs : List V}, RVs K W ms vs → RVs K (W.bare p) ms vs
  | _, _, .nil => .nil
  | _, _, .cons r t => .cons (RV.bare hp r) (RVs.bare hp t)
end
theorem RKV.bare {κ : Type} {p : Addr} (hp : W.hid p) : ∀ {ms : List (κ × MV)} {vs : List (κ × V)}, RKV K W ms vs → RKV K (W.bare p) ms vs
  | _, _, .nil => .nil
  | _, _, .cons r t => .cons (r.bare hp) (RKV.bare hp t)
theorem Sim.bare {h : MH} {p : Addr} (hp : W.hid p) (S : Sim K W h) : Sim K (W.bare p) h where
  n := S.n
  lt := S.lt
  inj := S.inj
  obj := fun l a e => by
    obtain ⟨u, e1, r⟩ := S.obj l a e
    have ne : a ≠ p := fun z => S.nhid l a e (by rw [z]; exact hp)
    have hH : (W.bare p).H a = W.H a := Wd.bare_ne ne
    refine ⟨u, e1, ?_⟩
    cases u with
    | dead => exact r.elim
    | lst xs =>
      obtain ⟨vs, q, t⟩ := r
      exact ⟨vs, hH.trans q, t.bare hp⟩
    | dK xs =>
      obtain ⟨vs, q, t⟩ := r
      exact ⟨vs, hH.trans q, t.bare hp⟩
    | dT xs =>
      obtain ⟨vs, q, t⟩ := r
      exact ⟨vs, hH.trans q, t.bare hp⟩
    | ins cn xs =>
      obtain ⟨C, dx, vs, hC, q, t⟩ := r
      exact ⟨C, dx, vs, hC, hH.trans q, t.bare hp⟩
  live := S.live
  nhid := fun l a e z => S.nhid l a e z.2
  hids := fun q hq => by
    obtain ⟨u, e1, n⟩ := S.hids q hq.2
    exact ⟨u, (Wd.bare_ne hq.1).trans e1, n⟩
theorem Ext.bare {p : Addr} {W0 : Wd} (x : Ext W0 W) (h0 : W0.H p = none) : Ext W0 (W.bare p) := ⟨x.le, x.agree, fun q u s e => by
  have hq : q ≠ p := ne_of_none e h0
  obtain ⟨a, b⟩ := x.frame q u s e
  exact ⟨(Wd.bare_ne hq).trans a, b.1, fun z => b.2 z.2⟩, fun q u s e => by
  have hq : q ≠ p := ne_of_none e h0
  obtain ⟨a, b⟩ := x.hidf q u s e
  exact ⟨(Wd.bare_ne hq).trans a, hq, b⟩⟩
theorem Sim.at {h : MH} (S : Sim K W h) {l : Nat} {o : MO} {v : V} (e : h[l]? = some o) (d : o ≠ .dead) (r : RV K W (.ref l) v) : ∃ a, v = .ref a ∧ W.f l = some a ∧ RO K W o a := by
  obtain ⟨a, ea⟩ := S.live l o e d
  obtain ⟨u, e1, ro⟩ := S.obj l a ea
  rw [e] at e1
  cases e1
  cases r with
  | ref lt q => exact ⟨a, by rw [q a ea], ea, ro⟩
theorem Sim.lstAt {h : MH} (S : Sim K W h) {l : Nat} {xs : List MV} {v : V} (e : h[l]? = some (.lst xs)) (r : RV K W (.ref l) v) : ∃ a vs, v = .ref a ∧ W.f l = some a ∧ W.H a = some (.lst vs) ∧ RVs K W xs vs := by
  obtain ⟨a, e1, e2, vs, e3, r3⟩ := S.at e (by intro z; cases z) r
  exact ⟨a, vs, e1, e2, e3, r3⟩
end
inductive RS (K : PySem.W.Frag) (W : Wd) : MS → St → Prop
  | nil : RS K W [] []
  | no {o : Option V} {a : MS} {b : St} (t : RS K W a b) : RS K W (none :: a) (o :: b)
  | yes {x : MV} {v : V} {a : MS} {b : St} (r : RV K W x v) (t : RS K W a b) : RS K W (some x :: a) (some v :: b)
section
variable {K : PySem.W.Frag} {W W' : Wd}
theorem RS.mono (x : Ext W W') : ∀ {a : MS} {b : St}, RS K W a b → RS K W' a b
  | _, _, .nil => .nil
  | _, _, .no t => .no (RS.mono x t)
  | _, _, .yes r t => .yes (r.mono x) (RS.mono x t)
theorem RS.get : ∀ {a : MS} {b : St} {i : Nat} {x : MV}, RS K W a b → a[i]? = some (some x) → ∃ v, b[i]? = some (some v) ∧ RV K W x v
  | _, _, _, _, .nil, e => by simp at e
  | _, _, 0, _, .no _, e => by simp at e
  | _, _, 0, _, .yes r _, e => by
    simp at e
    subst e
    exact ⟨_, rfl, r⟩
  | _, _, i + 1, _, .no t, e => by
    obtain ⟨v, p, q⟩ := RS.get (i := i) t (by simpa using e)
    exact ⟨v, by simpa using p, q⟩
  | _, _, i + 1, _, .yes _ t, e => by
    obtain ⟨v, p, q⟩ := RS.get (i := i) t (by simpa using e)
    exact ⟨v, by simpa using p, q⟩
theorem RS.set {x : MV} {v : V} (r : RV K W x v) : ∀ {a : MS} {b : St} (i : Nat), RS K W a b → RS K W (a.set i (some x)) (b.set i (some v))
  | _, _, _, .nil => .nil
  | _, _, 0, .no t => .yes r t
  | _, _, 0, .yes _ t => .yes r t
  | _, _, i + 1, .no t => .no (RS.set r i t)
  | _, _, i + 1, .yes q t => .yes q (RS.set r i t)
theorem RS.clr : ∀ {a : MS} {b : St} (i : Nat) (o : Option V), RS K W a b → RS K W (a.set i none) (b.set i o)
  | _, _, _, _, .nil => .nil
  | _, _, 0, _, .no t => .no t
  | _, _, 0, _, .yes _ t => .no t
  | _, _, i + 1, o, .no t => .no (RS.clr i o t)
  | _, _, i + 1, o, .yes q t => .yes q (RS.clr i o t)
def wipeM (s : MS) : List Nat → MS
  | [] => s
  | v :: vs => (wipeM s vs).set v none
theorem RS.wipe {a : MS} {b : St} (t : RS K W a b) : ∀ vs : List Nat, RS K W (wipeM a vs) (L2.wipe b vs)
  | [] => t
  | v :: vs => (RS.wipe t vs).clr v none
theorem RS.start : ∀ {xs : List MV} {vs : List V}, RVs K W xs vs → ∀ k, RS K W (xs.map some ++ List.replicate k none) (vs.map some ++ List.replicate k none)
  | _, _, .nil, 0 => .nil
  | _, _, .nil, k + 1 => .no (RS.start .nil k)
  | _, _, .cons r t, k => .yes r (RS.start t k)
end
end Mi
set_option maxHeartbeats 2000000
namespace Mi
open PySem L2
structure XC where
  mg : Str → Option Value
  E : XK
inductive RF (K : PySem.W.Frag) (W : Wd) : List (Str × MV) → List (Str × V) → Prop
  | nil : RF K W [] []
  | cons {f : Str} {x : MV} {v : V} {xs : List (Str × MV)} {vs : List (Str × V)} (r : RV K W x v) (t : RF K W xs vs) : RF K W ((f, x) :: xs) ((f, v) :: vs)
def XR (K : PySem.W.Frag) (c : XC) (W : Wd) (e : MX) (C : Value) (d : Option Addr) : Prop :=
  c.mg e.cls = some C ∧ ∃ fs, RF K W e.flds fs ∧ ((d = none ∧ fs = []) ∨ ∃ a, d = some a ∧ Stab W a ∧ W.H a = some (.xd fs))
def PX (K : PySem.W.Frag) (c : XC) (W : Wd) (e : MX) (h : MH) : Prop := ∀ W' C d, Ext W W' → Sim K W' h → XR K c W' e C d → c.E C d W'.H
def Pst {α : Type} (K : PySem.W.Frag) (c : XC) (C : Wd → α → Prop) (W : Wd) (r : Res α) : Prop := match r with
  | none => False
  | some (.ok a h) => ∀ W', Ext W W' → Sim K W' h → C W' a
  | some (.ex e h) => PX K c W e h
theorem PX.shift {K : PySem.W.Frag} {c : XC} {W W' : Wd} {e : MX} {h : MH} (x : Ext W W') (p : PX K c W e h) : PX K c W' e h := fun W2 C d x2 s q => p W2 C d (x.trans x2) s q
section
variable {K : PySem.W.Frag} {c : XC} {α β : Type}
theorem Pst.shift {C : Wd → α → Prop} {W W' : Wd} {r : Res α} (x : Ext W W') (p : Pst K c C W r) : Pst K c C W' r := by
  match r, p with
  | some (.ok a h), p => exact fun W2 x2 s => p W2 (x.trans x2) s
  | some (.ex e h), p => exact PX.shift x p
theorem Pst.imp {C C' : Wd → α → Prop} {W : Wd} {r : Res α} (p : Pst K c C W r) (i : ∀ W' a, Ext W W' → C W' a → C' W' a) : Pst K c C' W r := by
  match r, p with
  | some (.ok a h), p => exact fun W2 x2 s => i W2 a x2 (p W2 x2 s)
  | some (.ex e h), p => exact p
theorem Pst.bnd {C1 : Wd → α → Prop} {C2 : Wd → β → Prop} {W : Wd} {r : Res α} {k : α → MH → Res β} (p : Pst K c C2 W (r.bnd k))
    (i : ∀ W1 h1 a, Ext W W1 → Sim K W1 h1 → Pst K c C2 W1 (k a h1) → C1 W1 a) : Pst K c C1 W r := by
  match r, p with
  | some (.ok a h), p => exact fun W2 x2 s => i W2 h a x2 s (Pst.shift x2 p)
  | some (.ex e h), p => exact p
end
def CV (K : PySem.W.Frag) (Q : VK) (W : Wd) (x : MV) : Prop := ∀ v, RV K W x v → Q v W.H
def CA (K : PySem.W.Frag) (Q : List V → Hp → Prop) (W : Wd) (xs : List MV) : Prop := ∀ vs, RVs K W xs vs → Q vs W.H
def CB (Q : Bool → Hp → Prop) (W : Wd) (b : Bool) : Prop := Q b W.H
def CO (Q : Option Int → Hp → Prop) (W : Wd) (o : Option Int) : Prop := Q o W.H
def CL (K : PySem.W.Frag) (Q : VK) (W : Wd) (xs : List MV) : Prop := ∀ vs p, RVs K W xs vs → W.H p = none → Q (.ref p) (upd W.H p (.lst vs))
def tG {α β : Type} (K : PySem.W.Frag) (c : XC) (C : (β → Hp → Prop) → Wd → α → Prop) (m : MM α) : St → Hp → (β → Hp → Prop) → Prop :=
  fun σ H Q => ∃ W h s, W.H = H ∧ Sim K W h ∧ RS K W s σ ∧ Pst K c (C Q) W (m s h)
abbrev tM (K : PySem.W.Frag) (c : XC) (m : ME) : TE := tG K c (CV K) m
abbrev tMA (K : PySem.W.Frag) (c : XC) (m : MM (List MV)) : TA := tG K c (CA K) m
abbrev tMB (K : PySem.W.Frag) (c : XC) (m : MM Bool) : TT := tG K c CB m
abbrev tMO (K : PySem.W.Frag) (c : XC) (m : MM (Option Int)) : TO := tG K c CO m
abbrev tML (K : PySem.W.Frag) (c : XC) (m : MM (List MV)) : TE := tG K c (CL K) m
abbrev EM (X : Cx) (c : XC) (e : Expr) (m : ME) : Prop := PE X e (tM X.K c m)
abbrev BM (X : Cx) (c : XC) (e : Expr) (m : MM Bool) : Prop := PT X e (tMB X.K c m)
abbrev AM (X : Cx) (c : XC) (es : List Expr) (m : MM (List MV)) : Prop := PA X es (tMA X.K c m)
abbrev LM (X : Cx) (c : XC) (e : Expr) (m : MM (List MV)) : Prop := PE X e (tML X.K c m)
theorem pe_wk {X : Cx} {e : Expr} {t t' : TE} (h : PE X e t) (w : ∀ σ H Q, t' σ H Q → t σ H Q) : PE X e t' := ⟨fun pins s σ H Q I q => h.run pins s σ H Q I (w _ _ _ q)⟩
theorem pt_wk {X : Cx} {e : Expr} {t t' : TT} (h : PT X e t) (w : ∀ σ H Q, t' σ H Q → t σ H Q) : PT X e t' := ⟨fun pins s σ H Q I q => h.run pins s σ H Q I (w _ _ _ q)⟩
theorem pw_wk {X : Cx} {e : Expr} {t t' : TT} (h : PW X e t) (w : ∀ σ H Q, t' σ H Q → t σ H Q) : PW X e t' := ⟨fun wh pins s σ H Q I q => h.run wh pins s σ H Q I (w _ _ _ q)⟩
theorem pa_wk {X : Cx} {e : List Expr} {t t' : TA} (h : PA X e t) (w : ∀ σ H Q, t' σ H Q → t σ H Q) : PA X e t' := ⟨fun po pins s σ H Q I q => h.run po pins s σ H Q I (w _ _ _ q)⟩
theorem po_wk {X : Cx} {e : Option Expr} {t t' : TO} (h : PO X e t) (w : ∀ σ H Q, t' σ H Q → t σ H Q) : PO X e t' := ⟨fun pins s σ H Q I q => h.run pins s σ H Q I (w _ _ _ q)⟩
abbrev ok {α : Type} (a : α) (h : MH) : Res α := some (.ok a h)
@[simp] theorem ok_inj {α : Type} {a b : α} {h h' : MH} : ok a h = ok b h' ↔ a = b ∧ h = h' := ⟨fun e => by
  cases e
  exact ⟨rfl, rfl⟩, fun ⟨e1, e2⟩ => by rw [e1, e2]⟩
@[simp] theorem ok_ne {α : Type} {a : α} {h : MH} : ¬ (ok a h = none) := fun e => by cases e
theorem bnd_ok {α β : Type} {a : α} {h : MH} {k : α → MH → Res β} : (ok a h).bnd k = k a h := rfl
@[simp ↓] def may {α : Type} (o : Option α) (h : MH) : Res α := match o with
  | some a => ok a h
  | none => none
@[simp ↓] def slot : MS → Nat → Option MV
  | [], _ => none
  | x :: _, 0 => x
  | _ :: r, n + 1 => slot r n
theorem slot_eq : ∀ (s : MS) (i : Nat) {x : MV}, slot s i = some x → s[i]? = some (some x)
  | [], _, _, e => by cases e
  | o :: _, 0, x, e => by
    have e' : o = some x := e
    rw [e']
    rfl
  | _ :: r, n + 1, x, e => by
    have := slot_eq r n (x := x) e
    simpa using this
@[simp ↓] def varM (i : Nat) : ME := fun s h => may (slot s i) h
@[simp ↓] def cM (x : MV) : ME := fun _ h => ok x h
@[simp ↓] def opM (f : MV → MV → MH → Res MV) (a b : ME) : ME := fun s h => (a s h).bnd fun x h1 => (b s h1).bnd fun y h2 => f x y h2
@[simp ↓] def unM (f : MV → MH → Res MV) (a : ME) : ME := fun s h => (a s h).bnd fun x h1 => f x h1
@[simp ↓] def nilA : MM (List MV) := fun _ h => ok [] h
@[simp ↓] def consA (a : ME) (r : MM (List MV)) : MM (List MV) := fun s h => (a s h).bnd fun x h1 => (r s h1).bnd fun xs h2 => ok (x :: xs) h2
def lim : Nat := 1000000
theorem lim_line {n : Nat} (h : n ≤ lim) : n ≤ sizeLine := Nat.le_trans h (by rw [sizeLine_eq]; decide)
@[simp ↓] def tupM (a : MM (List MV)) : ME := fun s h => (a s h).bnd fun xs h1 => if xs.length ≤ lim then ok (.tup xs) h1 else none
@[simp ↓] def lstM (a : MM (List MV)) : MM (List MV) := fun s h => (a s h).bnd fun xs h1 => if xs.length ≤ lim then ok xs h1 else none
@[simp ↓] def flsM (m : MM (List MV)) : ME := fun s h => (m s h).bnd fun xs h1 => ok (.fls xs) h1
@[simp ↓] def refM (m : MM (List MV)) : ME := fun s h => (m s h).bnd fun xs h1 => ok (.ref h1.length) (h1 ++ [.lst xs])
@[simp ↓] def lstOf (h : MH) : MV → Option (List MV)
  | .fls xs => some xs
  | .frz xs => some xs
  | .ref l => match h[l]? with
    | some (.lst xs) => some xs
    | _ => none
  | _ => none
@[simp ↓] def seqOf (h : MH) : MV → Option (List MV)
  | .tup xs => some xs
  | .ktp xs => some xs
  | x => lstOf h x
section
variable {X : Cx} {c : XC} {e a b : Expr} {es : List Expr} {pos : Pos} {K : PySem.W.Frag} {W : Wd}
theorem em_var {i : Nat} (h : PE X e (tVar i)) : EM X c e (varM i) := pe_wk h fun σ H Q ⟨W, h, s, e, S, rs, p⟩ => by
  subst e
  cases q : slot s i with
  | none =>
    unfold varM may at p
    rw [q] at p
    exact p.elim
  | some x =>
    unfold varM may at p
    rw [q] at p
    obtain ⟨v, hv, r⟩ := rs.get (slot_eq s i q)
    exact ⟨v, hv, p W (Ext.refl W) S v r⟩
theorem em_c {x : MV} {v : V} (h : PE X e (tC v)) (r : ∀ W, RV X.K W x v) : EM X c e (cM x) := pe_wk h fun σ H Q ⟨W, h, s, e, S, rs, p⟩ => by
  subst e
  exact p W (Ext.refl W) S v (r W)
theorem em_int {i j} : EM X c (.Constant (.int i) j pos) (cM (.int i)) := em_c pe_int fun _ => .int i
theorem em_bl {b j} : EM X c (.Constant (.bool b) j pos) (cM (.bl b)) := em_c pe_bl fun _ => .bl b
theorem em_str {x j} : EM X c (.Constant (.str x) j pos) (cM (.str x)) := em_c pe_str fun _ => .str x
theorem am_nil : AM X c [] nilA := pa_wk pa_nil fun σ H Q ⟨W, h, s, e, S, rs, p⟩ => by
  subst e
  exact p W (Ext.refl W) S [] .nil
theorem am_cons {ma : ME} {mr : MM (List MV)} (ha : EM X c e ma) (hr : AM X c es mr) (hs : starEach (e :: es) X.env = (false, eval e X.env) :: starEach es X.env := by rfl) : AM X c (e :: es) (consA ma mr) :=
  pa_wk (pa_cons ha hr hs) fun σ H Q ⟨W, h, s, e, S, rs, p⟩ => by
    subst e
    refine ⟨W, h, s, rfl, S, rs, p.bnd fun W1 h1 x x1 S1 p1 v r1 => ?_⟩
    exact ⟨W1, h1, s, rfl, S1, rs.mono x1, p1.bnd fun W2 h2 xs x2 S2 p2 vs r2 => p2 W2 (Ext.refl _) S2 _ (.cons (r1.mono x2) r2)⟩
def OpM (K : PySem.W.Frag) (c : XC) (r : R2) (f : MV → MV → MH → Res MV) : Prop :=
  ∀ (W : Wd) (h : MH) (x y : MV) (u v : V) (Q : VK), Sim K W h → RV K W x u → RV K W y v → Pst K c (CV K Q) W (f x y h) → r u v W.H Q
theorem tOp_of {r : R2} {f : MV → MV → MH → Res MV} {ma mb : ME} (ho : OpM K c r f) {σ : St} {H : Hp} {Q : VK} (q : tM K c (opM f ma mb) σ H Q) : tOp r (tM K c ma) (tM K c mb) σ H Q := by
  obtain ⟨W, h, s, e, S, rs, p⟩ := q
  subst e
  refine ⟨W, h, s, rfl, S, rs, p.bnd fun W1 h1 x x1 S1 p1 u r1 => ?_⟩
  exact ⟨W1, h1, s, rfl, S1, rs.mono x1, p1.bnd fun W2 h2 y x2 S2 p2 v r2 => ho W2 h2 x y u v Q S2 (r1.mono x2) r2 p2⟩
theorem em_op {op : Operator} {r : R2} {f : MV → MV → MH → Res MV} {ma mb : ME} (hr : OpR X (binaryOp op) r) (ho : OpM X.K c r f) (ha : EM X c a ma) (hb : EM X c b mb) : EM X c (.BinOp a op b pos) (opM f ma mb) :=
  pe_wk (pe_op hr ha hb) fun σ H Q q => tOp_of ho q
theorem em_cmp {op : CmpOp} {r : R2} {f : MV → MV → MH → Res MV} {ma mb : ME} (hr : OpR X (compareOp op) r) (ho : OpM X.K c r f) (ha : EM X c a ma) (hb : EM X c b mb) (hm : behindInMarks op b = false) : EM X c (.Compare a [op] [b] pos) (opM f ma mb) :=
  pe_wk (pe_cmpR hr ha hb hm) fun σ H Q q => tOp_of ho q
theorem em_ix {r : R2} {f : MV → MV → MH → Res MV} {ma mb : ME} (hr : IxR X r) (ho : OpM X.K c r f) (ha : EM X c a ma) (hb : EM X c b mb) (hs : PlainIx b) : EM X c (.Subscript a b pos) (opM f ma mb) :=
  pe_wk (pe_ix hr ha hb hs) fun σ H Q q => tOp_of ho q
theorem em_tup {k : Nat} {m : MM (List MV)} (h : AM X c es m) : EM X c (.Tuple es k pos) (tupM m) := pe_wk (pe_tup h) fun σ H Q ⟨W, h, s, e, S, rs, p⟩ => by
  subst e
  refine ⟨W, h, s, rfl, S, rs, p.bnd fun W1 h1 xs x1 S1 p1 vs r1 => ?_⟩
  by_cases hl : xs.length ≤ lim
  · rw [if_pos hl] at p1
    refine ⟨lim_line (by rw [← r1.length]; exact hl), fun q hq => ?_⟩
    exact p1 (W1.put q (.tup vs)) (Ext.put S1 hq) (S1.put hq) (.ref q) (.tup (S1.fresh hq) upd_same (r1.mono (Ext.put S1 hq)))
  · rw [if_neg hl] at p1
    exact p1.elim
theorem lm_lst {m : MM (List MV)} (h : AM X c es m) : LM X c (.List es pos) (lstM m) := pe_wk (pe_lst h) fun σ H Q ⟨W, h, s, e, S, rs, p⟩ => by
  subst e
  refine ⟨W, h, s, rfl, S, rs, p.bnd fun W1 h1 xs x1 S1 p1 vs r1 => ?_⟩
  by_cases hl : xs.length ≤ lim
  · rw [if_pos hl] at p1
    exact ⟨lim_line (by rw [← r1.length]; exact hl), fun q hq => p1 W1 (Ext.refl _) S1 vs q r1 hq⟩
  · rw [if_neg hl] at p1
    exact p1.elim
theorem fls_of {m : MM (List MV)} {σ : St} {H : Hp} {Q : VK} (q : tM K c (flsM m) σ H Q) : tML K c m σ H Q := by
  obtain ⟨W, h, s, e, S, rs, p⟩ := q
  subst e
  refine ⟨W, h, s, rfl, S, rs, p.bnd fun W1 h1 xs x1 S1 p1 vs q r1 hq => ?_⟩
  exact p1 (W1.put q (.lst vs)) (Ext.put S1 hq) (S1.put hq) (.ref q) (.fls (S1.fresh hq) upd_same (r1.mono (Ext.put S1 hq)))
theorem ref_of {m : MM (List MV)} {σ : St} {H : Hp} {Q : VK} (q : tM K c (refM m) σ H Q) : tML K c m σ H Q := by
  obtain ⟨W, h, s, e, S, rs, p⟩ := q
  subst e
  refine ⟨W, h, s, rfl, S, rs, p.bnd fun W1 h1 xs x1 S1 p1 vs q r1 hq => ?_⟩
  refine p1 (W1.add q (.lst vs)) (Ext.add S1 hq) (S1.add hq ⟨vs, upd_same, r1.mono (Ext.add S1 hq)⟩) (.ref q) (.ref ?_ fun b hb => ?_)
  · show h1.length < W1.n + 1
    rw [S1.n]
    exact Nat.lt_succ_self _
  · have hb' : (if h1.length = W1.n then some q else W1.f h1.length) = some b := hb
    rw [if_pos S1.n.symm] at hb'
    exact (Option.some.inj hb').symm
theorem em_fls {m : MM (List MV)} (h : LM X c e m) : EM X c e (flsM m) := pe_wk h fun _ _ _ q => fls_of q
theorem em_ref {m : MM (List MV)} (h : LM X c e m) : EM X c e (refM m) := pe_wk h fun _ _ _ q => ref_of q
theorem lst_sq {h : MH} {x : MV} {v : V} {xs : List MV} (S : Sim K W h) (r : RV K W x v) (e : lstOf h x = some xs) : ∃ p vs, v = .ref p ∧ SqL K W.H p vs ∧ RVs K W xs vs := by
  cases r with
  | fls s q t =>
    cases e
    exact ⟨_, _, rfl, .inl (.inl q), t⟩
  | frz s q t =>
    cases e
    exact ⟨_, _, rfl, .inl q, t⟩
  | frzK q t =>
    cases e
    exact ⟨_, _, rfl, q _, t⟩
  | @ref l a0 lt q =>
    have e' : (match h[l]? with | some (.lst xs) => some xs | _ => none) = some xs := e
    cases hl : h[l]? with
    | none =>
      rw [hl] at e'
      cases e'
    | some o =>
      rw [hl] at e'
      cases o with
      | lst ys =>
        cases e'
        obtain ⟨a, vs, e1, e2, e3, r3⟩ := S.lstAt hl (.ref lt q)
        exact ⟨a, vs, e1, .inl (.inl e3), r3⟩
      | _ => cases e'
  | _ => cases e
theorem tup_sq {x : List MV} {v : V} (r : RV K W (.tup x) v) : ∃ p vs, v = .ref p ∧ SqT K W.H p vs ∧ RVs K W x vs := by
  cases r with
  | tup s q t => exact ⟨_, _, rfl, .inl (.inl q), t⟩
theorem ktp_sq {x : List MV} {v : V} (r : RV K W (.ktp x) v) : ∃ p vs, v = .ref p ∧ SqT K W.H p vs ∧ RVs K W x vs := by
  cases r with
  | tupK q t => exact ⟨_, _, rfl, q _, t⟩
theorem seq_sq {h : MH} {x : MV} {v : V} {xs : List MV} (S : Sim K W h) (r : RV K W x v) (e : seqOf h x = some xs) : ∃ p vs, v = .ref p ∧ (SqL K W.H p vs ∨ SqT K W.H p vs) ∧ RVs K W xs vs := by
  cases x with
  | tup ys =>
    cases e
    obtain ⟨p, vs, a, b, d⟩ := tup_sq r
    exact ⟨p, vs, a, .inr b, d⟩
  | ktp ys =>
    cases e
    obtain ⟨p, vs, a, b, d⟩ := ktp_sq r
    exact ⟨p, vs, a, .inr b, d⟩
  | _ =>
    obtain ⟨p, vs, a, b, d⟩ := lst_sq S r e
    exact ⟨p, vs, a, .inl b, d⟩
end
end Mi
set_option maxHeartbeats 2000000
namespace Mi
open PySem L2
def mulOk (i j : Int) : Prop := (-18446744073709551616 < i ∧ i < 18446744073709551616) ∨ (-18446744073709551616 < j ∧ j < 18446744073709551616)
noncomputable instance (i j : Int) : Decidable (mulOk i j) := Classical.propDecidable _
@[simp ↓] def addF (x y : MV) (h : MH) : Res MV := match x, y with
  | .int i, .int j => ok (.int (i + j)) h
  | .str i, .str j => if i.length + j.length ≤ lim then ok (.str (i ++ j)) h else none
  | .tup i, .tup j => if i.length + j.length ≤ lim then ok (.tup (i ++ j)) h else none
  | _, _ => none
@[simp ↓] def subF (x y : MV) (h : MH) : Res MV := match x, y with
  | .int i, .int j => ok (.int (i - j)) h
  | _, _ => none
@[simp ↓] noncomputable def mulF (x y : MV) (h : MH) : Res MV := match x, y with
  | .int i, .int j => if mulOk i j then ok (.int (i * j)) h else none
  | _, _ => none
@[simp ↓] def divF (x y : MV) (h : MH) : Res MV := match x, y with
  | .int i, .int j => if 0 < j ∧ j < 1073741824 then ok (.int (i / j)) h else none
  | _, _ => none
@[simp ↓] def modF (x y : MV) (h : MH) : Res MV := match x, y with
  | .int i, .int j => if 0 < j then ok (.int (i % j)) h else none
  | _, _ => none
@[simp ↓] def andF (x y : MV) (h : MH) : Res MV := match x, y with
  | .int i, .int j => ok (.int (Builtin.bitAnd i j)) h
  | _, _ => none
@[simp ↓] def orF (x y : MV) (h : MH) : Res MV := match x, y with
  | .int i, .int j => ok (.int (Builtin.bitOr i j)) h
  | _, _ => none
@[simp ↓] def xorF (x y : MV) (h : MH) : Res MV := match x, y with
  | .int i, .int j => ok (.int (Builtin.bitXor i j)) h
  | _, _ => none
def powOk (i j : Int) : Prop := 0 ≤ j ∧ j ≤ 1000000 ∧ i.natAbs < 18446744073709551616
instance (i j : Int) : Decidable (powOk i j) := by unfold powOk; exact inferInstance
@[simp ↓] def powF (x y : MV) (h : MH) : Res MV := match x, y with
  | .int i, .int j => if powOk i j then ok (.int (i ^ j.toNat)) h else none
  | _, _ => none
@[simp ↓] def shlF (x y : MV) (h : MH) : Res MV := match x, y with
  | .int i, .int j => if powOk i j then ok (.int (i * 2 ^ j.toNat)) h else none
  | _, _ => none
@[simp ↓] def shrF (x y : MV) (h : MH) : Res MV := match x, y with
  | .int i, .int j => if 0 ≤ j then ok (.int (i / 2 ^ j.toNat)) h else none
  | _, _ => none
@[simp ↓] def negF (x : MV) (h : MH) : Res MV := match x with
  | .int i => ok (.int (-i)) h
  | _ => none
@[simp ↓] def invF (x : MV) (h : MH) : Res MV := match x with
  | .int i => ok (.int (Builtin.bitNot i)) h
  | _ => none
section
variable {X : Cx} {c : XC} {K : PySem.W.Frag}
theorem rv_int {W : Wd} {i : Int} {v : V} (r : RV K W (.int i) v) : v = .int i := by
  cases r
  rfl
theorem rv_bl {W : Wd} {i : Bool} {v : V} (r : RV K W (.bl i) v) : v = .bl i := by
  cases r
  rfl
theorem rv_str {W : Wd} {i : Str} {v : V} (r : RV K W (.str i) v) : v = .str i := by
  cases r
  rfl
theorem Pst.now {α : Type} {C : Wd → α → Prop} {W : Wd} {h : MH} {a : α} (p : Pst K c C W (ok a h)) (S : Sim K W h) : C W a := p W (Ext.refl W) S
theorem opm_I0 {f : MV → MV → MH → Res MV} {g : Int → Int → Int} (hf : ∀ x y h, (∃ i j, x = .int i ∧ y = .int j ∧ f x y h = ok (.int (g i j)) h) ∨ f x y h = none) : OpM K c (rI0 fun i j => .int (g i j)) f :=
  fun W h x y u v Q S r1 r2 p => by
    rcases hf x y h with ⟨i, j, e1, e2, e⟩ | e
    · subst e1 e2
      rw [e] at p
      exact ⟨i, j, rv_int r1, rv_int r2, p.now S _ (.int _)⟩
    · rw [e] at p
      exact p.elim
theorem opm_I {C : Int → Int → Prop} {f : MV → MV → MH → Res MV} {g : Int → Int → Int} (hf : ∀ x y h, (∃ i j, x = .int i ∧ y = .int j ∧ C i j ∧ f x y h = ok (.int (g i j)) h) ∨ f x y h = none) : OpM K c (rI C fun i j => .int (g i j)) f :=
  fun W h x y u v Q S r1 r2 p => by
    rcases hf x y h with ⟨i, j, e1, e2, hc, e⟩ | e
    · subst e1 e2
      rw [e] at p
      exact ⟨i, j, rv_int r1, rv_int r2, hc, p.now S _ (.int _)⟩
    · rw [e] at p
      exact p.elim
theorem opm_sub : OpM K c (rI0 fun i j => .int (i - j)) subF := opm_I0 fun x y h => by
  cases x <;> cases y <;> first | exact .inr rfl | exact .inl ⟨_, _, rfl, rfl, rfl⟩
theorem opm_mul : OpM K c (rI CMul fun i j => .int (i * j)) mulF := opm_I fun x y h => by
  cases x <;> cases y <;> first | exact .inr rfl | skip
  rename_i i j
  by_cases q : mulOk i j
  · exact .inl ⟨i, j, rfl, rfl, q, if_pos q⟩
  · exact .inr (if_neg q)
theorem opm_div : OpM K c (rI CDiv fun i j => .int (i / j)) divF := opm_I fun x y h => by
  cases x <;> cases y <;> first | exact .inr rfl | skip
  rename_i i j
  by_cases q : 0 < j ∧ j < 1073741824
  · exact .inl ⟨i, j, rfl, rfl, q, if_pos q⟩
  · exact .inr (if_neg q)
theorem opm_mod : OpM K c (rI (fun _ j => 0 < j) fun i j => .int (i % j)) modF := opm_I fun x y h => by
  cases x <;> cases y <;> first | exact .inr rfl | skip
  rename_i i j
  by_cases q : 0 < j
  · exact .inl ⟨i, j, rfl, rfl, q, if_pos q⟩
  · exact .inr (if_neg q)
def rAddA (K : PySem.W.Frag) : R2 := fun x y H Q => (∃ i j, x = .int i ∧ y = .int j ∧ Q (.int (i + j)) H) ∨ (∃ i j, x = .str i ∧ y = .str j ∧ i.length + j.length ≤ sizeLine ∧ Q (.str (i ++ j)) H) ∨ rCatA K x y H Q
theorem op_addA : OpR X (binaryOp .Add) (rAddA X.K) := OpR.or op_add (OpR.or op_add_str op_catA)
theorem opm_add : OpM K c (rAddA K) addF := fun W h x y u v Q S r1 r2 p => by
  cases x <;> cases y <;> first | exact p.elim | skip
  · rename_i i j
    exact .inl ⟨i, j, rv_int r1, rv_int r2, p.now S _ (.int _)⟩
  · rename_i i j
    by_cases q : i.length + j.length ≤ lim
    · have p' : Pst K c (CV K Q) W (if i.length + j.length ≤ lim then ok (.str (i ++ j)) h else none) := p
      rw [if_pos q] at p'
      exact .inr (.inl ⟨i, j, rv_str r1, rv_str r2, lim_line q, p'.now S _ (.str _)⟩)
    · have p' : Pst K c (CV K Q) W (if i.length + j.length ≤ lim then ok (.str (i ++ j)) h else none) := p
      rw [if_neg q] at p'
      exact p'.elim
  · rename_i i j
    have p' : Pst K c (CV K Q) W (if i.length + j.length ≤ lim then ok (.tup (i ++ j)) h else none) := p
    by_cases q : i.length + j.length ≤ lim
    · rw [if_pos q] at p'
      obtain ⟨a, xs, rfl, ha, t1⟩ := tup_sq r1
      obtain ⟨b, ys, rfl, hb, t2⟩ := tup_sq r2
      refine .inr (.inr ⟨a, b, xs, ys, rfl, rfl, ha, hb, lim_line (by rw [← t1.length, ← t2.length]; exact q), fun e => ?_, fun e e' => ?_, fun e e' d hd => ?_⟩)
      · subst e
        cases t1
        exact p'.now S _ r2
      · subst e'
        cases t2
        rw [List.append_nil] at p'
        exact p'.now S _ r1
      · exact p' (W.put d (.tup (xs ++ ys))) (Ext.put S hd) (S.put hd) (.ref d) (.tup (S.fresh hd) upd_same ((t1.mono (Ext.put S hd)).append (t2.mono (Ext.put S hd))))
    · rw [if_neg q] at p'
      exact p'.elim
end
@[simp ↓] def ltF (x y : MV) (h : MH) : Res MV := match x, y with
  | .int i, .int j => ok (.bl (decide (i < j))) h
  | _, _ => none
@[simp ↓] def leF (x y : MV) (h : MH) : Res MV := match x, y with
  | .int i, .int j => ok (.bl (decide (i ≤ j))) h
  | _, _ => none
@[simp ↓] def gtF (x y : MV) (h : MH) : Res MV := match x, y with
  | .int i, .int j => ok (.bl (decide (j < i))) h
  | _, _ => none
@[simp ↓] def geF (x y : MV) (h : MH) : Res MV := match x, y with
  | .int i, .int j => ok (.bl (decide (j ≤ i))) h
  | _, _ => none
mutual
/-- a value as plain data (no place of the heap in it) -/
def pyOf : MV → Option PyData
  | .non => some .none
  | .bl b => some (.bool b)
  | .int i => some (.int i)
  | .str x => some (.str x)
  | .tup xs => (pysOf xs).map .tuple
  | .ktp xs => (pysOf xs).map .tuple
  | .fls xs => (pysOf xs).map .list
  | .frz xs => (pysOf xs).map .list
  | .ref _ => none
  | .exc .. => none
  | .fdt .. => none
def pysOf : List MV → Option (List PyData)
  | [] => some []
  | x :: xs => match pyOf x, pysOf xs with
    | some d, some ds => some (d :: ds)
    | _, _ => none
end
def eqB (x y : MV) : Option Bool := match x, y with
  | .int i, .int j => some (decide (i = j))
  | .bl i, .bl j => some (decide (i = j))
  | .str i, .str j => some (decide (i = j))
  | .non, .non => some true
  | _, _ => match pyOf x, pyOf y with
    | some d, some e => if SeqAt.shaped d = true ∧ SeqAt.shaped e = true then some (PyData.eqv d e) else none
    | _, _ => none
@[simp ↓] def eqF (x y : MV) (h : MH) : Res MV := match eqB x y with
  | some b => ok (.bl b) h
  | none => none
@[simp ↓] def neF (x y : MV) (h : MH) : Res MV := match eqB x y with
  | some b => ok (.bl (!b)) h
  | none => none
@[simp ↓] def isnF (x : MV) (h : MH) : Res MV := match x with
  | .non => ok (.bl true) h
  | _ => ok (.bl false) h
@[simp ↓] def notnF (x : MV) (h : MH) : Res MV := match x with
  | .non => ok (.bl false) h
  | _ => ok (.bl true) h
@[simp ↓] def isF (x y : MV) (h : MH) : Res MV := match y with
  | .non => isnF x h
  | _ => none
@[simp ↓] def notF (x y : MV) (h : MH) : Res MV := match y with
  | .non => notnF x h
  | _ => none
section
variable {X : Cx} {c : XC} {K : PySem.W.Frag} {W : Wd}
theorem opm_B0 {f : MV → MV → MH → Res MV} {g : Int → Int → Bool} (hf : ∀ x y h, (∃ i j, x = .int i ∧ y = .int j ∧ f x y h = ok (.bl (g i j)) h) ∨ f x y h = none) : OpM K c (rI0 fun i j => .bl (g i j)) f :=
  fun W h x y u v Q S r1 r2 p => by
    rcases hf x y h with ⟨i, j, e1, e2, e⟩ | e
    · subst e1 e2
      rw [e] at p
      exact ⟨i, j, rv_int r1, rv_int r2, p.now S _ (.bl _)⟩
    · rw [e] at p
      exact p.elim
theorem opm_lt : OpM K c (rI0 fun i j => .bl (decide (i < j))) ltF := opm_B0 fun x y h => by
  cases x <;> cases y <;> first | exact .inr rfl | exact .inl ⟨_, _, rfl, rfl, rfl⟩
theorem opm_gt : OpM K c (rI0 fun i j => .bl (decide (j < i))) gtF := opm_B0 fun x y h => by
  cases x <;> cases y <;> first | exact .inr rfl | exact .inl ⟨_, _, rfl, rfl, rfl⟩
theorem opm_ge : OpM K c (rI0 fun i j => .bl (decide (j ≤ i))) geF := opm_B0 fun x y h => by
  cases x <;> cases y <;> first | exact .inr rfl | exact .inl ⟨_, _, rfl, rfl, rfl⟩
mutual
theorem py_dp : ∀ {x : MV} {v : V} {d : PyData}, RV K W x v → pyOf x = some d → Dp K W.H v d
  | .non, _, _, .non, e => by
    cases e
    exact .non
  | .bl b, _, _, .bl _, e => by
    cases e
    exact .bl b
  | .int i, _, _, .int _, e => by
    cases e
    exact .int i
  | .str x, _, _, .str _, e => by
    cases e
    exact .str x
  | .tup xs, _, d, .tup s q t, e => by
    unfold pyOf at e
    cases h : pysOf xs with
    | none =>
      rw [h] at e
      cases e
    | some ds =>
      rw [h] at e
      cases e
      exact .tup (.inl (.inl q)) (pys_dp t h)
  | .ktp xs, _, d, .tupK q t, e => by
    unfold pyOf at e
    cases h : pysOf xs with
    | none =>
      rw [h] at e
      cases e
    | some ds =>
      rw [h] at e
      cases e
      exact .tup (q _) (pys_dp t h)
  | .fls xs, _, d, .fls s q t, e => by
    unfold pyOf at e
    cases h : pysOf xs with
    | none =>
      rw [h] at e
      cases e
    | some ds =>
      rw [h] at e
      cases e
      exact .lst (.inl (.inl q)) (pys_dp t h)
  | .frz xs, _, d, .frz s q t, e => by
    unfold pyOf at e
    cases h : pysOf xs with
    | none =>
      rw [h] at e
      cases e
    | some ds =>
      rw [h] at e
      cases e
      exact .lst (.inl q) (pys_dp t h)
  | .frz xs, _, d, .frzK q t, e => by
    unfold pyOf at e
    cases h : pysOf xs with
    | none =>
      rw [h] at e
      cases e
    | some ds =>
      rw [h] at e
      cases e
      exact .lst (q _) (pys_dp t h)
  | .ref _, _, _, _, e => by cases e
  | .exc .., _, _, _, e => by cases e
  | .fdt .., _, _, _, e => by cases e
theorem pys_dp : ∀ {xs : List MV} {vs : List V} {ds : List PyData}, RVs K W xs vs → pysOf xs = some ds → DpAll K W.H vs ds
  | [], _, _, .nil, e => by
    cases e
    exact .nil
  | x :: xs, _, _, .cons r t, e => by
    unfold pysOf at e
    cases h : pyOf x with
    | none =>
      rw [h] at e
      cases e
    | some d =>
      cases h2 : pysOf xs with
      | none =>
        rw [h, h2] at e
        cases e
      | some ds =>
        rw [h, h2] at e
        cases e
        exact .cons (py_dp r h) (pys_dp t h2)
end
def rEqA (K : PySem.W.Frag) : R2 := fun x y H Q => rEq x y H Q ∨ rEqD K x y H Q
def rNeA (K : PySem.W.Frag) : R2 := fun x y H Q => rNe x y H Q ∨ rNeD K x y H Q
theorem op_eqA (hu : X.A.units + 64 < cLine) : OpR X (compareOp .Eq) (rEqA X.K) := OpR.or op_eq (op_eqD hu)
theorem op_neA (hu : X.A.units + 64 < cLine) : OpR X (compareOp .NotEq) (rNeA X.K) := OpR.or op_ne (op_neD hu)
theorem eqB_cases {x y : MV} {u v : V} {b : Bool} (r1 : RV K W x u) (r2 : RV K W y v) (e : eqB x y = some b) :
    (scal u v = true ∧ decide (u = v) = b) ∨ ∃ d e, Dp K W.H u d ∧ Dp K W.H v e ∧ SeqAt.shaped d = true ∧ SeqAt.shaped e = true ∧ PyData.eqv d e = b := by
  have deep : ∀ x y : MV, RV K W x u → RV K W y v → (match pyOf x, pyOf y with | some d, some e => if SeqAt.shaped d = true ∧ SeqAt.shaped e = true then some (PyData.eqv d e) else none | _, _ => none) = some b →
      ∃ d e, Dp K W.H u d ∧ Dp K W.H v e ∧ SeqAt.shaped d = true ∧ SeqAt.shaped e = true ∧ PyData.eqv d e = b := fun x y r1 r2 e => by
    cases h : pyOf x with
    | none =>
      rw [h] at e
      cases e
    | some d =>
      cases h2 : pyOf y with
      | none =>
        rw [h, h2] at e
        cases e
      | some d2 =>
        rw [h, h2] at e
        have e' : (if SeqAt.shaped d = true ∧ SeqAt.shaped d2 = true then some (PyData.eqv d d2) else none) = some b := e
        by_cases q : SeqAt.shaped d = true ∧ SeqAt.shaped d2 = true
        · rw [if_pos q] at e'
          exact ⟨d, d2, py_dp r1 h, py_dp r2 h2, q.1, q.2, Option.some.inj e'⟩
        · rw [if_neg q] at e'
          cases e'
  cases x <;> cases y <;> first
    | exact .inr (deep _ _ r1 r2 e)
    | (cases r1; cases r2; exact .inl ⟨rfl, by simpa [eqB] using e⟩)
theorem opm_eq : OpM K c (rEqA K) eqF := fun W h x y u v Q S r1 r2 p => by
  unfold eqF at p
  cases e : eqB x y with
  | none =>
    rw [e] at p
    exact p.elim
  | some b =>
    rw [e] at p
    rcases eqB_cases r1 r2 e with ⟨a, d⟩ | ⟨d, e2, a1, a2, a3, a4, a5⟩
    · exact .inl ⟨a, by rw [d]; exact p.now S _ (.bl _)⟩
    · exact .inr ⟨d, e2, a1, a2, a3, a4, by rw [a5]; exact p.now S _ (.bl _)⟩
theorem opm_ne : OpM K c (rNeA K) neF := fun W h x y u v Q S r1 r2 p => by
  unfold neF at p
  cases e : eqB x y with
  | none =>
    rw [e] at p
    exact p.elim
  | some b =>
    rw [e] at p
    rcases eqB_cases r1 r2 e with ⟨a, d⟩ | ⟨d, e2, a1, a2, a3, a4, a5⟩
    · exact .inl ⟨a, by rw [d]; exact p.now S _ (.bl _)⟩
    · exact .inr ⟨d, e2, a1, a2, a3, a4, by rw [a5]; exact p.now S _ (.bl _)⟩
end
@[simp ↓] def flatM : MV → Bool
  | .non => true
  | .bl _ => true
  | .int _ => true
  | .str _ => true
  | _ => false
@[simp ↓] def eqM : MV → MV → Bool
  | .non, .non => true
  | .bl a, .bl b => a == b
  | .bl a, .int b => (if a then 1 else 0) == b
  | .int a, .bl b => a == (if b then 1 else 0)
  | .int a, .int b => a == b
  | .str a, .str b => a == b
  | _, _ => false
def inM (x : MV) (xs : List MV) : Bool := xs.any fun y => eqM y x
@[simp ↓] def inF (x y : MV) (h : MH) : Res MV := match seqOf h y with
  | some xs => if flatM x = true ∧ xs.all flatM = true then ok (.bl (inM x xs)) h else none
  | none => none
@[simp ↓] def ninF (x y : MV) (h : MH) : Res MV := match seqOf h y with
  | some xs => if flatM x = true ∧ xs.all flatM = true then ok (.bl (!inM x xs)) h else none
  | none => none
section
variable {X : Cx} {c : XC} {K : PySem.W.Frag} {W : Wd}
end
@[simp ↓] def ixF (x y : MV) (h : MH) : Res MV := match y with
  | .int i => match x with
    | .str z => if z.length ≤ lim then (match atI z.cps.toList i with
      | some q => ok (.str ⟨#[q]⟩) h
      | none => none) else none
    | _ => match seqOf h x with
      | some xs => match atI xs i with
        | some z => ok z h
        | none => none
      | none => none
  | _ => none
section
variable {X : Cx} {c : XC} {K : PySem.W.Frag} {W : Wd}
theorem RVs.atI {xs : List MV} {vs : List V} {i : Int} {x : MV} (t : RVs K W xs vs) (e : L2.atI xs i = some x) : ∃ v, L2.atI vs i = some v ∧ RV K W x v := by
  unfold L2.atI at e ⊢
  rw [← t.length]
  cases h : ixN xs.length i with
  | none =>
    rw [h] at e
    cases e
  | some j =>
    rw [h] at e
    exact t.get e
theorem opm_ix : OpM K c (rIx K) ixF := fun W h x y u v Q S r1 r2 p => by
  unfold ixF at p
  cases y with
  | int i =>
    have go : ∀ x : MV, RV K W x u → Pst K c (CV K Q) W (match seqOf h x with | some xs => (match L2.atI xs i with | some z => ok z h | none => none) | none => none) → rIx K u v W.H Q := fun x r1 p => by
      cases e : seqOf h x with
      | none =>
        rw [e] at p
        exact p.elim
      | some xs =>
        rw [e] at p
        have p' : Pst K c (CV K Q) W (match L2.atI xs i with | some z => ok z h | none => none) := p
        cases e2 : L2.atI xs i with
        | none =>
          rw [e2] at p'
          exact p'.elim
        | some z =>
          rw [e2] at p'
          obtain ⟨a, vs, q1, q2, t⟩ := seq_sq S r1 e
          obtain ⟨w, q3, q4⟩ := t.atI e2
          rcases q2 with q2 | q2
          · exact .inl ⟨a, vs, i, w, q1, rv_int r2, q2, q3, Pst.now p' S _ q4⟩
          · exact .inr (.inl ⟨a, vs, i, w, q1, rv_int r2, q2, q3, Pst.now p' S _ q4⟩)
    cases x with
    | str z =>
      have p' : Pst K c (CV K Q) W (if z.length ≤ lim then (match L2.atI z.cps.toList i with | some q => ok (.str ⟨#[q]⟩) h | none => none) else none) := p
      by_cases q : z.length ≤ lim
      · rw [if_pos q] at p'
        cases e : L2.atI z.cps.toList i with
        | none =>
          rw [e] at p'
          exact p'.elim
        | some w =>
          rw [e] at p'
          exact .inr (.inr ⟨z, i, w, rv_str r1, rv_int r2, lim_line q, e, Pst.now p' S _ (.str _)⟩)
      · rw [if_neg q] at p'
        exact p'.elim
    | _ => exact go _ r1 p
  | _ => exact p.elim
end
end Mi
set_option maxHeartbeats 2000000
namespace Mi
open PySem L2
@[simp ↓] def boolF (x : MV) (h : MH) : Res Bool := match x with
  | .bl b => ok b h
  | _ => none
@[simp ↓] def tstM (m : ME) : MM Bool := fun s h => (m s h).bnd boolF
@[simp ↓] def truF (x : MV) (h : MH) : Res Bool := match x with
  | .non => ok false h
  | .bl b => ok b h
  | .int i => ok (i != 0) h
  | .str z => if z.length ≤ lim then ok ((z.length : Int) != 0) h else none
  | .ref l => match h[l]? with
    | some (.lst xs) => ok (!xs.isEmpty) h
    | some (.dK kvs) => ok (!kvs.isEmpty) h
    | _ => none
  | .tup xs => ok (!xs.isEmpty) h
  | .ktp _ => none
  | .fls xs => ok (!xs.isEmpty) h
  | .frz xs => ok (!xs.isEmpty) h
  | .exc .. => none
  | .fdt .. => none
@[simp ↓] def truM (m : ME) : MM Bool := fun s h => (m s h).bnd truF
@[simp ↓] def andT (a b : MM Bool) : MM Bool := fun s h => (a s h).bnd fun p h1 => if p = true then b s h1 else ok false h1
@[simp ↓] def orT (a b : MM Bool) : MM Bool := fun s h => (a s h).bnd fun p h1 => if p = true then ok true h1 else b s h1
@[simp ↓] def notT (a : MM Bool) : MM Bool := fun s h => (a s h).bnd fun p h1 => ok (!p) h1
@[simp ↓] def yesT : MM Bool := fun _ h => ok true h
@[simp ↓] def andV (a b : ME) : ME := fun s h => (a s h).bnd fun x h1 => (boolF x h1).bnd fun p h2 => if p = true then b s h2 else ok (.bl false) h2
@[simp ↓] def orV (a b : ME) : ME := fun s h => (a s h).bnd fun x h1 => (boolF x h1).bnd fun p h2 => if p = true then ok (.bl true) h2 else b s h2
@[simp ↓] def notV (a : ME) : ME := fun s h => (a s h).bnd fun x h1 => (truF x h1).bnd fun p h2 => ok (.bl (!p)) h2
@[simp ↓] def ifM (t : MM Bool) (a b : ME) : ME := fun s h => (t s h).bnd fun p h1 => if p = true then a s h1 else b s h1
@[simp ↓] def chainM (f g : MV → MV → MH → Res MV) (a b d : ME) : ME := fun s h => (a s h).bnd fun x h1 => (b s h1).bnd fun y h2 => (f x y h2).bnd fun z h3 => (boolF z h3).bnd fun p h4 =>
  if p = true then (d s h4).bnd fun w h5 => g y w h5 else ok (.bl false) h4
abbrev WM (X : Cx) (c : XC) (e : Expr) (m : MM Bool) : Prop := PW X e (tMB X.K c m)
section
variable {X : Cx} {c : XC} {e a b d : Expr} {rest : List Expr} {pos : Pos} {K : PySem.W.Frag} {W : Wd}
theorem boolF_ok {C : Wd → Bool → Prop} {x : MV} {v : V} {h : MH} (S : Sim K W h) (r : RV K W x v) (p : Pst K c C W (boolF x h)) : ∃ b, x = .bl b ∧ v = .bl b ∧ C W b := by
  cases x <;> first | exact p.elim | skip
  rename_i b
  exact ⟨b, rfl, rv_bl r, Pst.now p S⟩
theorem bm_cmp {op : CmpOp} {r : R2} {f : MV → MV → MH → Res MV} {ma mb : ME} (hr : OpR X (compareOp op) r) (ho : OpM X.K c r f) (ha : EM X c a ma) (hb : EM X c b mb) (hm : behindInMarks op b = false) : BM X c (.Compare a [op] [b] pos) (tstM (opM f ma mb)) :=
  pt_wk (pt_cmpR hr ha hb hm) fun σ H Q ⟨W, h, s, e, S, rs, p⟩ => by
    subst e
    refine tOp_of ho ⟨W, h, s, rfl, S, rs, p.bnd fun W1 h1 x x1 S1 p1 v r1 => ?_⟩
    obtain ⟨k, _, e2, q⟩ := boolF_ok S1 r1 p1
    exact ⟨k, e2, q⟩
theorem tru_V {x : MV} {v : V} {h : MH} {C : Wd → Bool → Prop} (S : Sim K W h) (r : RV K W x v) (p : Pst K c C W (truF x h)) : ∃ k, TruV K v W.H k ∧ C W k := by
  cases x with
  | non =>
    cases r
    exact ⟨false, rfl, Pst.now p S⟩
  | bl b =>
    cases r
    exact ⟨b, rfl, Pst.now p S⟩
  | int i =>
    cases r
    exact ⟨_, rfl, Pst.now p S⟩
  | str z =>
    cases r
    have p' : Pst K c C W (if z.length ≤ lim then ok ((z.length : Int) != 0) h else none) := p
    by_cases q : z.length ≤ lim
    · rw [if_pos q] at p'
      exact ⟨_, ⟨lim_line q, rfl⟩, Pst.now p' S⟩
    · rw [if_neg q] at p'
      exact p'.elim
  | tup xs =>
    obtain ⟨q, vs, rfl, hq, t⟩ := tup_sq r
    exact ⟨!vs.isEmpty, .inr (.inl ⟨vs, hq, rfl⟩), by rw [← t.nil_iff]; exact Pst.now p S⟩
  | ktp xs => exact p.elim
  | exc => exact p.elim
  | fdt => exact p.elim
  | fls xs =>
    obtain ⟨q, vs, rfl, hq, t⟩ := lst_sq (h := h) S r rfl
    exact ⟨!vs.isEmpty, .inl ⟨vs, hq, rfl⟩, by rw [← t.nil_iff]; exact Pst.now p S⟩
  | frz xs =>
    obtain ⟨q, vs, rfl, hq, t⟩ := lst_sq (h := h) S r rfl
    exact ⟨!vs.isEmpty, .inl ⟨vs, hq, rfl⟩, by rw [← t.nil_iff]; exact Pst.now p S⟩
  | ref l =>
    have p' : Pst K c C W (match h[l]? with | some (.lst xs) => ok (!xs.isEmpty) h | some (.dK kvs) => ok (!kvs.isEmpty) h | _ => none) := p
    cases hl : h[l]? with
    | none =>
      rw [hl] at p'
      exact p'.elim
    | some o =>
      rw [hl] at p'
      cases o with
      | dead => exact p'.elim
      | lst xs =>
        obtain ⟨q, vs, rfl, e1, hq, t⟩ := S.lstAt hl r
        exact ⟨!vs.isEmpty, .inl ⟨vs, .inl (.inl hq), rfl⟩, by rw [← t.nil_iff]; exact Pst.now p' S⟩
      | dK kvs =>
        obtain ⟨q, rfl, e1, kws, hq, t⟩ := S.at hl (by intro z; cases z) r
        refine ⟨!kws.isEmpty, .inr (.inr ⟨kws, hq, rfl⟩), ?_⟩
        have en : kws.isEmpty = kvs.isEmpty := by cases t <;> rfl
        rw [en]
        exact Pst.now p' S
      | dT kvs => exact p'.elim
      | ins cn kvs => exact p'.elim
theorem bm_truth {ma : ME} (ha : EM X c a ma) (he : ∀ whole, isTrue a X.env whole = (do let v ← whole; standAt a.pos; holding [v] (truthy v))) : BM X c a (truM ma) :=
  pt_wk (pt_truth ha he) fun σ H Q ⟨W, h, s, e, S, rs, p⟩ => by
    subst e
    refine ⟨W, h, s, rfl, S, rs, p.bnd fun W1 h1 x x1 S1 p1 v r1 => ?_⟩
    exact tru_V S1 r1 p1
theorem wm_and1 {m : MM Bool} (ha : BM X c a m) : WM X c (.BoolOp .And [a] pos) m := pw_and1 ha
theorem wm_or1 {m : MM Bool} (ha : BM X c a m) : WM X c (.BoolOp .Or [a] pos) m := pw_or1 ha
theorem tAnd_of {m n : MM Bool} {σ : St} {H : Hp} {Q : Bool → Hp → Prop} (q : tMB K c (andT m n) σ H Q) : tAnd (tMB K c m) (tMB K c n) σ H Q := by
  obtain ⟨W, h, s, e, S, rs, p⟩ := q
  subst e
  refine ⟨W, h, s, rfl, S, rs, p.bnd fun W1 h1 k x1 S1 p1 => ?_⟩
  cases k with
  | true => exact ⟨W1, h1, s, rfl, S1, rs.mono x1, p1⟩
  | false => exact p1 W1 (Ext.refl _) S1
theorem tOr_of {m n : MM Bool} {σ : St} {H : Hp} {Q : Bool → Hp → Prop} (q : tMB K c (orT m n) σ H Q) : tOr (tMB K c m) (tMB K c n) σ H Q := by
  obtain ⟨W, h, s, e, S, rs, p⟩ := q
  subst e
  refine ⟨W, h, s, rfl, S, rs, p.bnd fun W1 h1 k x1 S1 p1 => ?_⟩
  cases k with
  | false => exact ⟨W1, h1, s, rfl, S1, rs.mono x1, p1⟩
  | true => exact p1 W1 (Ext.refl _) S1
theorem wm_and {m n : MM Bool} (ha : BM X c a m) (hb : WM X c (.BoolOp .And (b :: rest) pos) n) : WM X c (.BoolOp .And (a :: b :: rest) pos) (andT m n) := pw_wk (pw_and ha hb) fun σ H Q q => tAnd_of q
theorem wm_or {m n : MM Bool} (ha : BM X c a m) (hb : WM X c (.BoolOp .Or (b :: rest) pos) n) : WM X c (.BoolOp .Or (a :: b :: rest) pos) (orT m n) := pw_wk (pw_or ha hb) fun σ H Q q => tOr_of q
theorem bm_w {m : MM Bool} (h : WM X c e m) : BM X c e m := h.pt
theorem bm_not {m : MM Bool} (ha : BM X c a m) : BM X c (.UnaryOp .Not a pos) (notT m) := pt_wk (pt_not ha) fun σ H Q ⟨W, h, s, e, S, rs, p⟩ => by
  subst e
  exact ⟨W, h, s, rfl, S, rs, p.bnd fun W1 h1 k x1 S1 p1 => p1 W1 (Ext.refl _) S1⟩
theorem em_one {op} {m : ME} (h : EM X c a m) : EM X c (.BoolOp op [a] pos) m := pe_one h
theorem em_and {ma mb : ME} (ha : EM X c a ma) (hb : EM X c (.BoolOp .And (b :: rest) pos) mb) : EM X c (.BoolOp .And (a :: b :: rest) pos) (andV ma mb) := pe_wk (pe_and ha hb) fun σ H Q ⟨W, h, s, e, S, rs, p⟩ => by
  subst e
  refine ⟨W, h, s, rfl, S, rs, p.bnd fun W1 h1 x x1 S1 p1 v r1 => ?_⟩
  obtain ⟨k, _, e2, q⟩ := boolF_ok (C := fun W k => if k = true then tM X.K c mb σ W.H Q else Q (.bl false) W.H) S1 r1 (p1.bnd fun W2 h2 k x2 S2 p2 => by
    cases k with
    | true =>
      rw [if_pos rfl] at p2 ⊢
      exact ⟨W2, h2, s, rfl, S2, (rs.mono x1).mono x2, p2⟩
    | false =>
      rw [if_neg Bool.false_ne_true] at p2 ⊢
      exact Pst.now p2 S2 _ (.bl _))
  exact ⟨k, e2, q⟩
theorem em_or {ma mb : ME} (ha : EM X c a ma) (hb : EM X c (.BoolOp .Or (b :: rest) pos) mb) : EM X c (.BoolOp .Or (a :: b :: rest) pos) (orV ma mb) := pe_wk (pe_or ha hb) fun σ H Q ⟨W, h, s, e, S, rs, p⟩ => by
  subst e
  refine ⟨W, h, s, rfl, S, rs, p.bnd fun W1 h1 x x1 S1 p1 v r1 => ?_⟩
  obtain ⟨k, _, e2, q⟩ := boolF_ok (C := fun W k => if k = true then Q (.bl true) W.H else tM X.K c mb σ W.H Q) S1 r1 (p1.bnd fun W2 h2 k x2 S2 p2 => by
    cases k with
    | false =>
      rw [if_neg Bool.false_ne_true] at p2 ⊢
      exact ⟨W2, h2, s, rfl, S2, (rs.mono x1).mono x2, p2⟩
    | true =>
      rw [if_pos rfl] at p2 ⊢
      exact Pst.now p2 S2 _ (.bl _))
  exact ⟨k, e2, q⟩
theorem em_not {m : ME} (ha : EM X c a m) : EM X c (.UnaryOp .Not a pos) (notV m) := pe_wk (pe_notT ha) fun σ H Q ⟨W, h, s, e, S, rs, p⟩ => by
  subst e
  refine ⟨W, h, s, rfl, S, rs, p.bnd fun W1 h1 x x1 S1 p1 v r1 => ?_⟩
  exact tru_V S1 r1 (p1.bnd fun W2 h2 k x2 S2 p2 => Pst.now p2 S2 _ (.bl _))
end
@[simp ↓] def bndS {α : Type} (r : Res α) (k : α → MH → Option OutS) : Option OutS := match r with
  | none => none
  | some (.ok a h) => k a h
  | some (.ex e h) => some (.ex e h)
theorem bndS_ok {α : Type} {a : α} {h : MH} {k : α → MH → Option OutS} : bndS (ok a h) k = k a h := rfl
def PstS (K : PySem.W.Frag) (c : XC) (D : Ends) (W : Wd) (r : Option OutS) : Prop := match r with
  | none => False
  | some (.nx s h) => ∀ W' σ, Ext W W' → Sim K W' h → RS K W' s σ → D.nx σ W'.H
  | some (.ret x h) => ∀ W' v, Ext W W' → Sim K W' h → RV K W' x v → D.rt v W'.H
  | some (.brk s h) => ∀ W' σ, Ext W W' → Sim K W' h → RS K W' s σ → D.bk σ W'.H
  | some (.cnt s h) => ∀ W' σ, Ext W W' → Sim K W' h → RS K W' s σ → D.ct σ W'.H
  | some (.ex e h) => PX K c W e h
def tS (K : PySem.W.Frag) (c : XC) (m : MT) : TS := fun D σ H => ∃ W h s, W.H = H ∧ Sim K W h ∧ RS K W s σ ∧ PstS K c D W (m s h)
abbrev SM (X : Cx) (c : XC) (st : Stmt) (m : MT) : Prop := PS X st (tS X.K c m)
abbrev SsM (X : Cx) (c : XC) (sts : List Stmt) (m : MT) : Prop := PSs X sts (tS X.K c m)
theorem ps_wk {X : Cx} {st : Stmt} {t t' : TS} (h : PS X st t) (w : ∀ D σ H, t' D σ H → t D σ H) : PS X st t' := ⟨fun pins s σ H D I q => h.run pins s σ H D I (w _ _ _ q)⟩
theorem pss_wk {X : Cx} {st : List Stmt} {t t' : TS} (h : PSs X st t) (w : ∀ D σ H, t' D σ H → t D σ H) : PSs X st t' := ⟨fun pins s σ H D I q => h.run pins s σ H D I (w _ _ _ q)⟩
section
variable {K : PySem.W.Frag} {c : XC} {α : Type} {D : Ends} {W W' : Wd}
theorem PstS.shift {r : Option OutS} (x : Ext W W') (p : PstS K c D W r) : PstS K c D W' r := by
  match r, p with
  | some (.nx s h), p => exact fun W2 σ x2 S rs => p W2 σ (x.trans x2) S rs
  | some (.ret s h), p => exact fun W2 σ x2 S rs => p W2 σ (x.trans x2) S rs
  | some (.brk s h), p => exact fun W2 σ x2 S rs => p W2 σ (x.trans x2) S rs
  | some (.cnt s h), p => exact fun W2 σ x2 S rs => p W2 σ (x.trans x2) S rs
  | some (.ex e h), p => exact PX.shift x p
theorem PstS.bnd {C : Wd → α → Prop} {r : Res α} {k : α → MH → Option OutS} (p : PstS K c D W (bndS r k))
    (i : ∀ W1 h1 a, Ext W W1 → Sim K W1 h1 → PstS K c D W1 (k a h1) → C W1 a) : Pst K c C W r := by
  match r, p with
  | some (.ok a h), p => exact fun W2 x2 s => i W2 h a x2 s (PstS.shift x2 p)
  | some (.ex e h), p => exact p
end
@[simp ↓] def nilS : MT := fun s h => some (.nx s h)
@[simp ↓] def seqS (a b : MT) : MT := fun s h => match a s h with
  | some (.nx s1 h1) => b s1 h1
  | r => r
@[simp ↓] def setS (i : Nat) (m : ME) : MT := fun s h => bndS (m s h) fun x h1 => some (.nx (s.set i (some x)) h1)
@[simp ↓] def dropS (m : ME) : MT := fun s h => bndS (m s h) fun _ h1 => some (.nx s h1)
@[simp ↓] def retS (m : ME) : MT := fun s h => bndS (m s h) fun x h1 => some (.ret x h1)
@[simp ↓] def retnS : MT := fun _ h => some (.ret .non h)
@[simp ↓] def ifS (t : MM Bool) (a b : MT) : MT := fun s h => bndS (t s h) fun p h1 => if p = true then a s h1 else b s h1
@[simp ↓] def brkS : MT := fun s h => some (.brk s h)
@[simp ↓] def cntS : MT := fun s h => some (.cnt s h)
@[simp ↓] def putAll : List Nat → List MV → MS → Option MS
  | [], [], s => some s
  | i :: is, x :: xs, s => putAll is xs (s.set i (some x))
  | _, _, _ => none
@[simp ↓] def unp (is : List Nat) (x : MV) (s : MS) : Option MS := match x with
  | .tup xs => putAll is xs s
  | _ => none
@[simp ↓] def one (i : Nat) (x : MV) (s : MS) : Option MS := some (s.set i (some x))
@[simp ↓] def asgS (g : MV → MS → Option MS) (m : ME) : MT := fun s h => bndS (m s h) fun x h1 => match g x s with
  | some s1 => some (.nx s1 h1)
  | none => none
@[simp ↓] def wrF (l : Nat) (i : Int) (x : MV) (h : MH) : Option MH := match h[l]? with
  | some (.lst xs) => match ixN xs.length i with
    | some j => some (h.set l (.lst (xs.set j x)))
    | none => none
  | _ => none
@[simp ↓] def subS (m o i : ME) : MT := fun s h => bndS (m s h) fun x h1 => bndS (o s h1) fun y h2 => bndS (i s h2) fun z h3 => match y, z with
  | .ref l, .int j => match wrF l j x h3 with
    | some h4 => some (.nx s h4)
    | none => none
  | _, _ => none
@[simp ↓] def augS (i : Nat) (f : Int → Int → Int) (m : ME) : MT := fun s h => match slot s i with
  | some (.int a) => bndS (m s h) fun y h1 => match y with
    | .int b => some (.nx (s.set i (some (.int (f a b)))) h1)
    | _ => none
  | _ => none
section
variable {X : Cx} {c : XC} {e a b o : Expr} {pos : Pos} {K : PySem.W.Frag} {st : Stmt} {rest sts : List Stmt}
theorem ss_nil : SsM X c [] nilS := pss_wk pss_nil fun D σ H ⟨W, h, s, e, S, rs, p⟩ => by
  subst e
  exact p W σ (Ext.refl W) S rs
theorem ss_cons {m n : MT} (h1 : SM X c st m) (h2 : SsM X c rest n) : SsM X c (st :: rest) (seqS m n) := pss_wk (pss_cons h1 h2) fun D σ H ⟨W, h, s, e, S, rs, p⟩ => by
  subst e
  refine ⟨W, h, s, rfl, S, rs, ?_⟩
  unfold seqS at p
  cases q : m s h with
  | none =>
    rw [q] at p
    exact p.elim
  | some r =>
    rw [q] at p
    cases r with
    | nx s1 h1 => exact fun W1 σ1 x1 S1 rs1 => ⟨W1, h1, s1, rfl, S1, rs1, PstS.shift x1 p⟩
    | ret x h1 => exact p
    | brk s1 h1 => exact p
    | cnt s1 h1 => exact p
    | ex x h1 => exact p
theorem ss_one {m : MT} (h : SM X c st m) : SsM X c [st] m := pss_one h
theorem s_break : SM X c (.Break pos) brkS := ps_wk ps_break fun D σ H ⟨W, h, s, e, S, rs, p⟩ => by
  subst e
  exact p W σ (Ext.refl W) S rs
theorem s_expr {m : ME} (he : EM X c e m) (hs : swapsWith e none pos.line X.env = pure false := by rfl) : SM X c (.Expr e pos) (dropS m) := ps_wk (ps_expr he hs) fun D σ H ⟨W, h, s, e, S, rs, p⟩ => by
  subst e
  exact ⟨W, h, s, rfl, S, rs, p.bnd fun W1 h1 x x1 S1 p1 v r1 => p1 W1 σ (Ext.refl _) S1 (rs.mono x1)⟩
theorem s_ret {m : ME} (he : EM X c e m) : SM X c (.Return (some e) pos) (retS m) := ps_wk (ps_ret he) fun D σ H ⟨W, h, s, e, S, rs, p⟩ => by
  subst e
  exact ⟨W, h, s, rfl, S, rs, p.bnd fun W1 h1 x x1 S1 p1 v r1 => p1 W1 v (Ext.refl _) S1 r1⟩
theorem s_if {t : Expr} {mt : MM Bool} {ma mb : MT} {aa bb : List Stmt} (ht : BM X c t mt) (ha : SsM X c aa ma) (hb : SsM X c bb mb) : SM X c (.If t aa bb pos) (ifS mt ma mb) := ps_wk (ps_if ht ha hb) fun D σ H ⟨W, h, s, e, S, rs, p⟩ => by
  subst e
  refine ⟨W, h, s, rfl, S, rs, p.bnd fun W1 h1 k x1 S1 p1 => ?_⟩
  cases k with
  | true => exact ⟨W1, h1, s, rfl, S1, rs.mono x1, p1⟩
  | false => exact ⟨W1, h1, s, rfl, S1, rs.mono x1, p1⟩
theorem s_set {i : Nat} {x : Str} {m : ME} {pos' : Pos} (hN : X.N.Nodup) (hi : X.N[i]? = some x) (hx : Loc X.env.scope x) (he : EM X c e m) (hs : swapsWith e (some (.Name x pos')) pos.line X.env = pure false := by rfl) (hf : X.fn x = true ∨ X.env.scope.names.lookup x = some .local := by first | exact .inl rfl | exact .inr rfl | assumption) :
    SM X c (.Assign [.Name x pos'] e pos) (setS i m) := ps_wk (ps_set hN hi hx he hs hf) fun D σ H ⟨W, h, s, e, S, rs, p⟩ => by
  subst e
  exact ⟨W, h, s, rfl, S, rs, p.bnd fun W1 h1 y x1 S1 p1 v r1 => p1 W1 _ (Ext.refl _) S1 ((rs.mono x1).set r1 i)⟩
def TgM (K : PySem.W.Frag) (t : TG) (g : MV → MS → Option MS) : Prop := ∀ (W : Wd) (s s' : MS) (σ : St) (x : MV) (v : V) (Q : St → Hp → Prop), RS K W s σ → RV K W x v → g x s = some s' → (∀ σ', RS K W s' σ' → Q σ' W.H) → t v σ W.H Q
theorem tg_one (i : Nat) : TgM K (gName i) (one i) := fun W s s' σ x v Q rs r e q => by
  cases e
  exact q _ (rs.set r i)
def gNames : List Nat → TGs
  | [] => gNil
  | i :: is => gCons (gName i) (gNames is)
theorem tg_all : ∀ (is : List Nat) (W : Wd) (s s' : MS) (σ : St) (xs : List MV) (vs : List V) (Q : St → Hp → Prop), RS K W s σ → RVs K W xs vs → putAll is xs s = some s' → (∀ σ', RS K W s' σ' → Q σ' W.H) → gNames is vs σ W.H Q
  | [], W, s, s', σ, [], _, Q, rs, .nil, e, q => by
    cases e
    exact ⟨rfl, q σ rs⟩
  | i :: is, W, s, s', σ, x :: xs, _, Q, rs, .cons r t, e, q => ⟨_, _, rfl, tg_all is W _ s' _ xs _ Q (rs.set r i) t e q⟩
  | [], _, _, _, _, _ :: _, _, _, _, _, e, _ => by cases e
  | _ :: _, _, _, _, _, [], _, _, _, _, e, _ => by cases e
theorem putAll_len : ∀ {is : List Nat} {xs : List MV} {s s' : MS}, putAll is xs s = some s' → xs.length = is.length
  | [], [], _, _, _ => rfl
  | i :: is, x :: xs, s, s', e => by
    rw [List.length_cons, List.length_cons, putAll_len (show putAll is xs (s.set i (some x)) = some s' from e)]
  | [], _ :: _, _, _, e => by cases e
  | _ :: _, [], _, _, e => by cases e
theorem tg_tup (is : List Nat) : TgM K (gTup K is.length (gNames is)) (unp is) := fun W s s' σ x v Q rs r e q => by
  cases x <;> first | (cases e; done) | skip
  rename_i xs
  obtain ⟨a, vs, rfl, hq, t⟩ := tup_sq r
  exact ⟨a, vs, rfl, hq, by rw [← t.length]; exact putAll_len e, tg_all is W s s' σ xs vs Q rs t e q⟩
theorem wrF_ok {W : Wd} {h h' : MH} {l : Nat} {j : Int} {x : MV} {u v : V} {Q : Hp → Prop} (S : Sim K W h) (r : RV K W (.ref l) u) (rx : RV K W x v) (e : wrF l j x h = some h') (q : ∀ W', Ext W W' → Sim K W' h' → Q W'.H) : rSetL u (.int j) v W.H Q := by
  unfold wrF at e
  cases hl : h[l]? with
  | none =>
    rw [hl] at e
    cases e
  | some m =>
    rw [hl] at e
    cases m with
    | lst xs =>
      have e' : (match ixN xs.length j with | some j => some (h.set l (MO.lst (xs.set j x))) | none => none) = some h' := e
      cases hi : ixN xs.length j with
      | none =>
        rw [hi] at e'
        cases e'
      | some k =>
        rw [hi] at e'
        cases e'
        obtain ⟨p, vs, rfl, e1, e2, t⟩ := S.lstAt hl r
        refine ⟨p, vs, j, k, rfl, rfl, e2, by rw [← t.length]; exact hi, ?_⟩
        exact q (W.wr p (.lst (vs.set k v))) (Ext.wr S e1) (S.wr e1 ⟨_, upd_same, (t.set rx k).mono (Ext.wr S e1)⟩)
    | dead => cases e
    | dK kvs => cases e
    | dT kvs => cases e
    | ins cn kvs => cases e
theorem s_sub {m mo mi : ME} {i : Expr} {p' : Pos} (he : EM X c e m) (ho : EM X c o mo) (hi : EM X c i mi) (ha : ∀ v, assign (.Subscript o i p') X.env v = (do let o1 ← holding [v] (eval o X.env); let i1 ← holding [v, o1] (eval i X.env); standAt p'; holding [v, o1, i1] (setItem o1 i1 v); release [v, o1, i1] []) := by intro _; rfl) (hs : swapsWithSole [.Subscript o i p'] e pos.line X.env = pure false := by rfl) (hw : swappedStores [.Subscript o i p'] e X.env = pure none := by rfl)
    (h1 : (assignEach [.Subscript o i p'] X.env).map (·.2) = [assign (.Subscript o i p') X.env] := by rfl) : SM X c (.Assign [.Subscript o i p'] e pos) (subS m mo mi) := ps_wk (ps_asg he (pg_sub ho hi set_list ha) hs hw h1) fun D σ H ⟨W, h, s, e, S, rs, p⟩ => by
  subst e
  refine ⟨W, h, s, rfl, S, rs, p.bnd fun W1 h1 y x1 S1 p1 v r1 => ?_⟩
  refine ⟨W1, h1, s, rfl, S1, rs.mono x1, p1.bnd fun W2 h2 y2 x2 S2 p2 v2 r2 => ?_⟩
  refine ⟨W2, h2, s, rfl, S2, (rs.mono x1).mono x2, p2.bnd fun W3 h3 y3 x3 S3 p3 v3 r3 => ?_⟩
  cases y2 <;> first | exact p3.elim | skip
  cases y3 <;> first | exact p3.elim | skip
  rename_i l j
  cases q : wrF l j y h3 with
  | none =>
    simp only [q] at p3
    exact p3.elim
  | some h4 =>
    simp only [q] at p3
    rw [rv_int r3]
    exact wrF_ok S3 (r2.mono x3) ((r1.mono x2).mono x3) q fun W4 x4 S4 => p3 W4 σ x4 S4 (((rs.mono x1).mono x2).mono (x3.trans x4))
end
end Mi
set_option maxHeartbeats 2000000
namespace Mi
open PySem L2
inductive MIter where
  | st (its : List MV) | dyn (l n : Nat) | enm (l n : Nat)
def JR (K : PySem.W.Frag) (W : Wd) (it : MIter) (J : It) : Prop := match it with
  | .st its => ∀ (i : Nat) (W' : Wd) (h : MH), Ext W W' → Sim K W' h →
      (∀ x, its[i]? = some x → J.go i W'.H ∧ ∀ v H2, J.yld i W'.H v H2 → ∃ W2, W2.H = H2 ∧ Ext W' W2 ∧ Sim K W2 h ∧ RV K W2 x v) ∧ (its.length ≤ i → J.stop i W'.H)
  | .dyn l _ => ∃ a, W.f l = some a ∧ J = Itl K a
  | .enm l _ => ∃ a, W.f l = some a ∧ J = Ite K a
def CI (K : PySem.W.Frag) (R : It → Hp → Prop) (W : Wd) (it : MIter) : Prop := ∀ J, JR K W it J → R J W.H
abbrev tMI (K : PySem.W.Frag) (c : XC) (m : MM MIter) : TI := tG K c (CI K) m
abbrev IM (X : Cx) (c : XC) (tg e : Expr) (m : MM MIter) : Prop := PI X tg e (tMI X.K c m)
theorem pi_wk {X : Cx} {tg e : Expr} {t t' : TI} (h : PI X tg e t) (w : ∀ σ H R, t' σ H R → t σ H R) : PI X tg e t' := ⟨fun pins s σ H R I q => h.run pins s σ H R I (w _ _ _ q)⟩
@[simp ↓] def seqI (m : ME) : MM MIter := fun s h => (m s h).bnd fun x h1 => match x with
  | .tup xs => ok (.st xs) h1
  | .ktp xs => ok (.st xs) h1
  | .fls xs => ok (.st xs) h1
  | .frz xs => ok (.st xs) h1
  | .ref l => match h1[l]? with
    | some (.lst xs) => ok (.dyn l (xs.length + 1)) h1
    | _ => none
  | _ => none
def runOf (a : Int) (n : Nat) : List MV := (List.range n).map fun (i : Nat) => MV.int (a + (i : Int))
@[simp ↓] def rng1F (xs : List MV) (h : MH) : Res MIter := match xs with
  | [.int n] => if n ≤ 1000000 ∧ -1000000 ≤ n then ok (.st (runOf 0 n.toNat)) h else none
  | _ => none
@[simp ↓] def rng2F (xs : List MV) (h : MH) : Res MIter := match xs with
  | [.int a, .int b] => if (a ≤ 1000000 ∧ -1000000 ≤ a) ∧ (b ≤ 1000000 ∧ -1000000 ≤ b) then ok (.st (runOf a (b - a).toNat)) h else none
  | _ => none
@[simp ↓] def rng1 (m : MM (List MV)) : MM MIter := fun s h => (m s h).bnd rng1F
@[simp ↓] def rng2 (m : MM (List MV)) : MM MIter := fun s h => (m s h).bnd rng2F
section
variable {X : Cx} {c : XC} {tg e a b : Expr} {K : PySem.W.Frag} {W : Wd}
def iSeq (K : PySem.W.Frag) (tl : TE) : TI := fun σ H R => tl σ H fun x H1 => (∃ a, x = .ref a ∧ (∃ xs, SqL K H1 a xs) ∧ R (Itl K a) H1) ∨ ∃ a, x = .ref a ∧ (∃ xs, SqT K H1 a xs) ∧ R (Itt K a) H1
theorem pi_seq {tl : TE} (hl : PE X e tl) : PI X tg e (iSeq X.K tl) := by
  refine ⟨fun pins s σ H R I h => thn (hl.run pins s σ H _ I h) fun v s1 ⟨x, H1, I1, r1, q1⟩ => ?_⟩
  have at1 : ∀ b ∈ [s1.heap.objs.size], FpOk X pins H1 b := fun b hb => by
    obtain rfl : b = s1.heap.objs.size := by simpa using hb
    exact I1.fpOk (Nat.le_refl _) (I1.hok.fresh (Nat.le_refl _))
  rcases q1 with ⟨a, e, ⟨xs, hq⟩, q⟩ | ⟨a, e, ⟨xs, hq⟩, q⟩
  · subst e
    cases r1
    obtain ⟨its, rv, p, hz⟩ := I1.list hq
    exact wpAny_pyIter_list p.isList ⟨s1.heap.objs.size, [s1.heap.objs.size], _, _, H1, rfl, I1.kept (t' := s1.toks) (fun b o z => Heap.get?_push_of_some _ z),
      turn_list a _, ⟨_, Heap.get?_push_size _ rfl, rfl, rfl⟩, at1, q⟩
  · subst e
    cases r1
    obtain ⟨its, rv, p, hz⟩ := I1.tuple hq
    exact wpAny_pyIter_tuple (show s1.heap.IsTuple a its.toArray from p) ⟨s1.heap.objs.size, [s1.heap.objs.size], _, _, H1, rfl, I1.kept (t' := s1.toks) (fun b o z => Heap.get?_push_of_some _ z),
      turn_tuple a _, ⟨_, Heap.get?_push_size _ rfl, rfl, rfl⟩, at1, q⟩
theorem jr_lst {x : MV} {u : V} {xs : List MV} {h : MH} (S : Sim K W h) (r : RV K W x u) (hx : x = .fls xs ∨ x = .frz xs) : ∃ a, u = .ref a ∧ (∃ vs, SqL K W.H a vs) ∧ JR K W (.st xs) (Itl K a) := by
  have go : ∀ (W' : Wd), Ext W W' → ∀ h', Sim K W' h' → ∃ a vs, u = .ref a ∧ SqL K W'.H a vs ∧ RVs K W' xs vs := fun W' x' h' S' => by
    have r' := r.mono x'
    rcases hx with e | e <;> subst e
    · obtain ⟨p, vs, e1, e2, t⟩ := lst_sq (h := h') S' r' rfl
      exact ⟨p, vs, e1, e2, t⟩
    · obtain ⟨p, vs, e1, e2, t⟩ := lst_sq (h := h') S' r' rfl
      exact ⟨p, vs, e1, e2, t⟩
  obtain ⟨a, vs, e1, e2, t⟩ := go W (Ext.refl W) h S
  refine ⟨a, e1, ⟨vs, e2⟩, fun i W' h' x' S' => ?_⟩
  obtain ⟨a', ws, e1', e2', t'⟩ := go W' x' h' S'
  rw [e1] at e1'
  cases e1'
  refine ⟨fun y hy => ?_, fun hi => ⟨ws, e2', by rw [← t'.length]; exact hi⟩⟩
  obtain ⟨v, hv, rv⟩ := t'.get hy
  refine ⟨⟨ws, v, e2', hv⟩, fun v2 H2 ⟨eh, y2⟩ => ⟨W', eh.symm, Ext.refl _, S', ?_⟩⟩
  have := y2 ws e2'
  rw [hv] at this
  cases this
  exact rv
theorem jr_tup {u : V} {x : MV} {xs : List MV} {h : MH} (S : Sim K W h) (r : RV K W x u) (hx : x = .tup xs ∨ x = .ktp xs) : ∃ a, u = .ref a ∧ (∃ vs, SqT K W.H a vs) ∧ JR K W (.st xs) (Itt K a) := by
  have sq : ∀ {W' : Wd}, RV K W' x u → ∃ p vs, u = .ref p ∧ SqT K W'.H p vs ∧ RVs K W' xs vs := fun r => by
    rcases hx with e | e <;> subst e
    · exact tup_sq r
    · exact ktp_sq r
  obtain ⟨a, vs, e1, e2, t⟩ := sq r
  refine ⟨a, e1, ⟨vs, e2⟩, fun i W' h' x' S' => ?_⟩
  obtain ⟨a', ws, e1', e2', t'⟩ := sq (r.mono x')
  rw [e1] at e1'
  cases e1'
  refine ⟨fun y hy => ?_, fun hi => ⟨ws, e2', by rw [← t'.length]; exact hi⟩⟩
  obtain ⟨v, hv, rv⟩ := t'.get hy
  refine ⟨⟨ws, v, e2', hv⟩, fun v2 H2 ⟨eh, y2⟩ => ⟨W', eh.symm, Ext.refl _, S', ?_⟩⟩
  have := y2 ws e2'
  rw [hv] at this
  cases this
  exact rv
theorem im_seq {m : ME} (he : EM X c e m) : IM X c tg e (seqI m) := pi_wk (pi_seq he) fun σ H R ⟨W, h, s, e, S, rs, p⟩ => by
  subst e
  refine ⟨W, h, s, rfl, S, rs, p.bnd fun W1 h1 x x1 S1 p1 v r1 => ?_⟩
  cases x with
  | tup xs =>
    obtain ⟨a, e1, e2, j⟩ := jr_tup S1 r1 (.inl rfl)
    exact .inr ⟨a, e1, e2, Pst.now p1 S1 _ j⟩
  | ktp xs =>
    obtain ⟨a, e1, e2, j⟩ := jr_tup S1 r1 (.inr rfl)
    exact .inr ⟨a, e1, e2, Pst.now p1 S1 _ j⟩
  | fls xs =>
    obtain ⟨a, e1, e2, j⟩ := jr_lst S1 r1 (.inl rfl)
    exact .inl ⟨a, e1, e2, Pst.now p1 S1 _ j⟩
  | frz xs =>
    obtain ⟨a, e1, e2, j⟩ := jr_lst S1 r1 (.inr rfl)
    exact .inl ⟨a, e1, e2, Pst.now p1 S1 _ j⟩
  | ref l =>
    have p' : Pst X.K c (CI X.K R) W1 (match h1[l]? with | some (.lst xs) => ok (.dyn l (xs.length + 1)) h1 | _ => none) := p1
    cases hl : h1[l]? with
    | none =>
      rw [hl] at p'
      exact p'.elim
    | some o =>
      rw [hl] at p'
      cases o with
      | lst xs =>
        obtain ⟨a, vs, e1, e2, e3, t⟩ := S1.lstAt hl r1
        exact .inl ⟨a, e1, ⟨vs, .inl (.inl e3)⟩, Pst.now p' S1 _ ⟨a, e2, rfl⟩⟩
      | dead => exact p'.elim
      | dK kvs => exact p'.elim
      | dT kvs => exact p'.elim
      | ins cn kvs => exact p'.elim
  | _ => exact p1.elim
theorem runOf_get {a : Int} {n i : Nat} {x : MV} (h : (runOf a n)[i]? = some x) : i < n ∧ x = .int (a + i) := by
  unfold runOf at h
  rw [List.getElem?_map] at h
  by_cases hi : i < n
  · rw [List.getElem?_range hi] at h
    exact ⟨hi, (Option.some.inj h).symm⟩
  · rw [List.getElem?_eq_none (by rw [List.length_range]; omega)] at h
    cases h
theorem runOf_len {a : Int} {n : Nat} : (runOf a n).length = n := by
  unfold runOf
  rw [List.length_map, List.length_range]
theorem jr_rng {a : Int} {n : Nat} : JR K W (.st (runOf a n)) (Itr a n) := fun i W' h' x' S' => by
  refine ⟨fun y hy => ?_, fun hi => by rw [runOf_len] at hi; exact hi⟩
  obtain ⟨h1, h2⟩ := runOf_get hy
  subst h2
  exact ⟨h1, fun v H2 ⟨eh, ev⟩ => ⟨W', eh.symm, Ext.refl _, S', by rw [ev]; exact .int _⟩⟩
theorem rng1F_ok {C : Wd → MIter → Prop} {xs : List MV} {h : MH} (p : Pst K c C W (rng1F xs h)) (S : Sim K W h) : ∃ n : Int, xs = [.int n] ∧ (n ≤ 1000000 ∧ -1000000 ≤ n) ∧ C W (.st (runOf 0 n.toNat)) := by
  unfold rng1F at p
  split at p
  · rename_i n
    by_cases q : n ≤ 1000000 ∧ -1000000 ≤ n
    · rw [if_pos q] at p
      exact ⟨n, rfl, q, Pst.now p S⟩
    · rw [if_neg q] at p
      exact p.elim
  · exact p.elim
theorem rng2F_ok {C : Wd → MIter → Prop} {xs : List MV} {h : MH} (p : Pst K c C W (rng2F xs h)) (S : Sim K W h) : ∃ n k : Int, xs = [.int n, .int k] ∧ ((n ≤ 1000000 ∧ -1000000 ≤ n) ∧ (k ≤ 1000000 ∧ -1000000 ≤ k)) ∧ C W (.st (runOf n (k - n).toNat)) := by
  unfold rng2F at p
  split at p
  · rename_i n k
    by_cases q : (n ≤ 1000000 ∧ -1000000 ≤ n) ∧ (k ≤ 1000000 ∧ -1000000 ≤ k)
    · rw [if_pos q] at p
      exact ⟨n, k, rfl, q, Pst.now p S⟩
    · rw [if_neg q] at p
      exact p.elim
  · exact p.elim
theorem rvs_one {x : MV} {vs : List V} (r : RVs K W [x] vs) : ∃ v, vs = [v] ∧ RV K W x v := by
  cases r with
  | cons r t =>
    cases t
    exact ⟨_, rfl, r⟩
theorem rvs_two {x y : MV} {vs : List V} (r : RVs K W [x, y] vs) : ∃ v w, vs = [v, w] ∧ RV K W x v ∧ RV K W y w := by
  cases r with
  | cons r t =>
    obtain ⟨w, rfl, r2⟩ := rvs_one t
    exact ⟨_, w, rfl, r, r2⟩
theorem im_rng1 {m : MM (List MV)} {p pos : Pos} (hg : Gl X "range") (hm : X.mg "range" = none) (ha : AM X c [a] m) (hs : starEach [a] X.env = [(false, eval a X.env)] := by rfl) : IM X c tg (.Call (.Name "range" p) [a] [] pos) (rng1 m) :=
  pi_wk (pi_range1 hg hm ha hs) fun σ H R ⟨W, h, s, e, S, rs, p⟩ => by
    subst e
    refine ⟨W, h, s, rfl, S, rs, p.bnd fun W1 h1 xs x1 S1 p1 vs r1 => ?_⟩
    obtain ⟨n, rfl, q, p'⟩ := rng1F_ok p1 S1
    obtain ⟨v, rfl, r⟩ := rvs_one r1
    exact ⟨n, by rw [rv_int r], by omega, by omega, p' _ jr_rng⟩
theorem im_rng2 {m : MM (List MV)} {p pos : Pos} (hg : Gl X "range") (hm : X.mg "range" = none) (ha : AM X c [a, b] m) (hs : starEach [a, b] X.env = [(false, eval a X.env), (false, eval b X.env)] := by rfl) (hs2 : starEach [b] X.env = [(false, eval b X.env)] := by rfl) :
    IM X c tg (.Call (.Name "range" p) [a, b] [] pos) (rng2 m) :=
  pi_wk (pi_range2 hg hm ha hs hs2) fun σ H R ⟨W, h, s, e, S, rs, p⟩ => by
    subst e
    refine ⟨W, h, s, rfl, S, rs, p.bnd fun W1 h1 xs x1 S1 p1 vs r1 => ?_⟩
    obtain ⟨n, k, rfl, q, p'⟩ := rng2F_ok p1 S1
    obtain ⟨v, w, rfl, r, r2⟩ := rvs_two r1
    exact ⟨n, k, by rw [rv_int r, rv_int r2], by omega, p' _ jr_rng⟩
end
def forS (bd : MV → MT) : List MV → MT
  | [], s, h => some (.nx s h)
  | x :: xs, s, h => match bd x s h with
    | some (.nx s1 h1) => forS bd xs s1 h1
    | some (.cnt s1 h1) => forS bd xs s1 h1
    | some (.brk s1 h1) => some (.nx s1 h1)
    | some (.ret v h1) => some (.ret v h1)
    | some (.ex e h1) => some (.ex e h1)
    | none => none
def forL (bd : MV → MT) (l : Nat) : Nat → Nat → MT
  | 0, _, _, _ => none
  | n + 1, i, s, h => match h[l]? with
    | some (.lst xs) => match xs[i]? with
      | none => some (.nx s h)
      | some x => match bd x s h with
        | some (.nx s1 h1) => forL bd l n (i + 1) s1 h1
        | some (.cnt s1 h1) => forL bd l n (i + 1) s1 h1
        | some (.brk s1 h1) => some (.nx s1 h1)
        | some (.ret v h1) => some (.ret v h1)
        | some (.ex e h1) => some (.ex e h1)
        | none => none
    | _ => none
def forE (bd : MV → MT) (l : Nat) : Nat → Nat → MT
  | 0, _, _, _ => none
  | n + 1, i, s, h => match h[l]? with
    | some (.lst xs) => match xs[i]? with
      | none => some (.nx s h)
      | some x => match bd (.tup [.int (i : Int), x]) s h with
        | some (.nx s1 h1) => forE bd l n (i + 1) s1 h1
        | some (.cnt s1 h1) => forE bd l n (i + 1) s1 h1
        | some (.brk s1 h1) => some (.nx s1 h1)
        | some (.ret v h1) => some (.ret v h1)
        | some (.ex e h1) => some (.ex e h1)
        | none => none
    | _ => none
@[simp ↓] def turnM (g : MV → MS → Option MS) (m : MT) (x : MV) : MT := fun s h => match g x s with
  | some s1 => m s1 h
  | none => none
@[simp ↓] def forM (mi : MM MIter) (g : MV → MS → Option MS) (m : MT) : MT := fun s h => bndS (mi s h) fun it h1 => match it with
  | .st its => forS (turnM g m) its s h1
  | .dyn l n => forL (turnM g m) l n 0 s h1
  | .enm l n => forE (turnM g m) l n 0 s h1
def whlG (cd : MM Bool) (bd : MT) : Nat → MT
  | 0, _, _ => none
  | n + 1, s, h => bndS (cd s h) fun b h1 => if b = true then (match bd s h1 with
    | some (.nx s1 h2) => whlG cd bd n s1 h2
    | some (.cnt s1 h2) => whlG cd bd n s1 h2
    | some (.brk s1 h2) => some (.nx s1 h2)
    | some (.ret v h2) => some (.ret v h2)
    | some (.ex e h2) => some (.ex e h2)
    | none => none) else some (.nx s h1)
section
variable {X : Cx} {c : XC} {tg e : Expr} {K : PySem.W.Frag} {W : Wd} {pos : Pos} {body : List Stmt}
theorem enm_yld {h : MH} {T : Addr} {i : Nat} {x : MV} {v : V} (S : Sim K W h) (hT : W.H T = none) (r : RV K W x v) : ∃ W2 : Wd, W2.H = upd W.H T (.tup [.int (i : Nat), v]) ∧ Ext W W2 ∧ Sim K W2 h ∧ RV K W2 (.tup [.int ((0 + i : Nat) : Int), x]) (.ref T) := by
  have xp : Ext W (W.put T (.tup [.int (i : Nat), v])) := Ext.put S hT
  refine ⟨_, rfl, xp, Sim.put S hT, ?_⟩
  rw [Nat.zero_add]
  exact .tup (S.fresh hT) upd_same (.cons (.int _) (.cons (r.mono xp) .nil))
theorem s_for {mi : MM MIter} {t : TG} {g : MV → MS → Option MS} {m : MT} (hp : PassesOwn (model X.prog X.w) X.A X.env X.xe) (hc : X.calm = true) (hi : IM X c tg e mi) (hg : PG X tg t) (ho : TgM X.K t g) (hb : SsM X c body m)
    (hs : ∀ x, foldedSetIterable e X.env x = pure x := by intro _; rfl) : SM X c (.For tg e body [] pos) (forM mi g m) := ps_wk (ps_for hp hc hi hg hb hs) fun D σ H ⟨W, h, s, e, S, rs, p⟩ => by
  subst e
  refine ⟨W, h, s, rfl, S, rs, p.bnd fun W1 h1 it x1 S1 p1 J jr => ?_⟩
  cases it with
  | st its =>
    refine ⟨fun i n σ' H' => n = its.length - i ∧ i ≤ its.length ∧ ∃ W' h' s', W'.H = H' ∧ Ext W1 W' ∧ Sim X.K W' h' ∧ RS X.K W' s' σ' ∧ PstS X.K c D W' (forS (turnM g m) (its.drop i) s' h'),
      ⟨its.length, rfl, Nat.zero_le _, W1, h1, s, rfl, Ext.refl _, S1, rs.mono x1, p1⟩, ?_⟩
    rintro i n σ' H' ⟨hn, hle, W', h', s', rfl, x', S', rs', p'⟩
    obtain ⟨j1, j2⟩ := jr i W' h' x' S'
    by_cases hi : i < its.length
    · obtain ⟨jg, jy⟩ := j1 its[i] (List.getElem?_eq_getElem hi)
      rw [List.drop_eq_getElem_cons hi] at p'
      refine .inr ⟨jg, fun σ2 H2 => ∃ W2 h2 s2, W2.H = H2 ∧ Ext W1 W2 ∧ Sim X.K W2 h2 ∧ RS X.K W2 s2 σ2 ∧ PstS X.K c D W2 (forS (turnM g m) (its.drop (i + 1)) s2 h2), fun σ2 H2 w => ⟨its.length - (i + 1), by omega, rfl, by omega, w⟩, fun v H2 y => ?_⟩
      obtain ⟨W2, rfl, x2, S2, r2⟩ := jy v H2 y
      have p2 : PstS X.K c D W2 (forS (turnM g m) (its[i] :: its.drop (i + 1)) s' h') := PstS.shift x2 p'
      unfold forS turnM at p2
      cases hgx : g its[i] s' with
      | none =>
        rw [hgx] at p2
        exact p2.elim
      | some s3 =>
        rw [hgx] at p2
        refine ho W2 s' s3 σ' _ v _ (rs'.mono x2) r2 hgx fun σ3 rs3 => ⟨W2, h', s3, rfl, S2, rs3, ?_⟩
        cases hm : m s3 h' with
        | none =>
          simp only [hm] at p2
          exact p2.elim
        | some r =>
          simp only [hm] at p2
          cases r with
          | nx s4 h4 => exact fun W4 σ4 x4 S4 rs4 => ⟨W4, h4, s4, rfl, (x'.trans x2).trans x4, S4, rs4, PstS.shift x4 p2⟩
          | cnt s4 h4 => exact fun W4 σ4 x4 S4 rs4 => ⟨W4, h4, s4, rfl, (x'.trans x2).trans x4, S4, rs4, PstS.shift x4 p2⟩
          | brk s4 h4 => exact p2
          | ret x4 h4 => exact p2
          | ex e4 h4 => exact p2
    · have e0 : its.drop i = [] := List.drop_eq_nil_of_le (by omega)
      rw [e0] at p'
      exact .inl ⟨j2 (by omega), p' W' σ' (Ext.refl _) S' rs'⟩
  | dyn l k =>
    obtain ⟨a, ea, rfl⟩ := jr
    have hl1 : l < W1.n := by
      rw [S1.n]
      exact S1.lt l a ea
    refine ⟨fun i n σ' H' => ∃ W' h' s', W'.H = H' ∧ Ext W1 W' ∧ Sim X.K W' h' ∧ RS X.K W' s' σ' ∧ PstS X.K c D W' (forL (turnM g m) l n i s' h'),
      ⟨k, W1, h1, s, rfl, Ext.refl _, S1, rs.mono x1, p1⟩, ?_⟩
    rintro i n σ' H' ⟨W', h', s', rfl, x', S', rs', p'⟩
    cases n with
    | zero => exact p'.elim
    | succ n =>
      unfold forL at p'
      cases hl : h'[l]? with
      | none =>
        rw [hl] at p'
        exact p'.elim
      | some o =>
        rw [hl] at p'
        cases o with
        | dead => exact p'.elim
        | dK kvs => exact p'.elim
        | dT kvs => exact p'.elim
        | ins cn kvs => exact p'.elim
        | lst xs =>
          obtain ⟨a', ea'⟩ := S'.live l _ hl (by intro z; cases z)
          obtain rfl : a' = a := by
            rcases x'.agree l hl1 with q | q
            · rw [q, ea] at ea'
              exact (Option.some.inj ea').symm
            · rw [q] at ea'
              cases ea'
          obtain ⟨o2, e2, ro⟩ := S'.obj l a' ea'
          rw [hl] at e2
          cases e2
          obtain ⟨vs, hv, t⟩ := ro
          have hsq : SqL X.K W'.H a' vs := .inl (.inl hv)
          have p2 : PstS X.K c D W' (match xs[i]? with
            | none => some (.nx s' h')
            | some x => match turnM g m x s' h' with
              | some (.nx s1 h1) => forL (turnM g m) l n (i + 1) s1 h1
              | some (.cnt s1 h1) => forL (turnM g m) l n (i + 1) s1 h1
              | some (.brk s1 h1) => some (.nx s1 h1)
              | some (.ret v h1) => some (.ret v h1)
              | some (.ex e h1) => some (.ex e h1)
              | none => none) := p'
          cases hx : xs[i]? with
          | none =>
            rw [hx] at p2
            have hi : vs.length ≤ i := by
              rw [← t.length]
              exact List.getElem?_eq_none_iff.mp hx
            exact .inl ⟨⟨vs, hsq, hi⟩, p2 W' σ' (Ext.refl _) S' rs'⟩
          | some x =>
            rw [hx] at p2
            obtain ⟨v, hvi, rv⟩ := t.get hx
            refine .inr ⟨⟨vs, v, hsq, hvi⟩, fun σ2 H2 => ∃ W2 h2 s2, W2.H = H2 ∧ Ext W1 W2 ∧ Sim X.K W2 h2 ∧ RS X.K W2 s2 σ2 ∧ PstS X.K c D W2 (forL (turnM g m) l n (i + 1) s2 h2), fun σ2 H2 w => ⟨n, Nat.lt_succ_self _, w⟩, fun v2 H2 y => ?_⟩
            obtain ⟨rfl, y2⟩ := y
            have := y2 vs hsq
            rw [hvi] at this
            cases this
            unfold turnM at p2
            cases hgx : g x s' with
            | none =>
              simp only [hgx] at p2
              exact p2.elim
            | some s3 =>
              simp only [hgx] at p2
              refine ho W' s' s3 σ' _ v _ rs' rv hgx fun σ3 rs3 => ⟨W', h', s3, rfl, S', rs3, ?_⟩
              cases hm : m s3 h' with
              | none =>
                simp only [hm] at p2
                exact p2.elim
              | some r =>
                simp only [hm] at p2
                cases r with
                | nx s4 h4 => exact fun W4 σ4 x4 S4 rs4 => ⟨W4, h4, s4, rfl, x'.trans x4, S4, rs4, PstS.shift x4 p2⟩
                | cnt s4 h4 => exact fun W4 σ4 x4 S4 rs4 => ⟨W4, h4, s4, rfl, x'.trans x4, S4, rs4, PstS.shift x4 p2⟩
                | brk s4 h4 => exact p2
                | ret x4 h4 => exact p2
                | ex e4 h4 => exact p2
  | enm l k =>
    obtain ⟨a, ea, rfl⟩ := jr
    have hl1 : l < W1.n := by
      rw [S1.n]
      exact S1.lt l a ea
    refine ⟨fun i n σ' H' => ∃ W' h' s', W'.H = H' ∧ Ext W1 W' ∧ Sim X.K W' h' ∧ RS X.K W' s' σ' ∧ PstS X.K c D W' (forE (turnM g m) l n i s' h'),
      ⟨k, W1, h1, s, rfl, Ext.refl _, S1, rs.mono x1, p1⟩, ?_⟩
    rintro i n σ' H' ⟨W', h', s', rfl, x', S', rs', p'⟩
    cases n with
    | zero => exact p'.elim
    | succ n =>
      unfold forE at p'
      cases hl : h'[l]? with
      | none =>
        rw [hl] at p'
        exact p'.elim
      | some o =>
        rw [hl] at p'
        cases o with
        | dead => exact p'.elim
        | dK kvs => exact p'.elim
        | dT kvs => exact p'.elim
        | ins cn kvs => exact p'.elim
        | lst xs =>
          obtain ⟨a', ea'⟩ := S'.live l _ hl (by intro z; cases z)
          obtain rfl : a' = a := by
            rcases x'.agree l hl1 with q | q
            · rw [q, ea] at ea'
              exact (Option.some.inj ea').symm
            · rw [q] at ea'
              cases ea'
          obtain ⟨o2, e2, ro⟩ := S'.obj l a' ea'
          rw [hl] at e2
          cases e2
          obtain ⟨vs, hv, t⟩ := ro
          have hsq : SqL X.K W'.H a' vs := .inl (.inl hv)
          have p2 : PstS X.K c D W' (match xs[i]? with
            | none => some (.nx s' h')
            | some x => match turnM g m (.tup [.int (i : Int), x]) s' h' with
              | some (.nx s1 h1) => forE (turnM g m) l n (i + 1) s1 h1
              | some (.cnt s1 h1) => forE (turnM g m) l n (i + 1) s1 h1
              | some (.brk s1 h1) => some (.nx s1 h1)
              | some (.ret v h1) => some (.ret v h1)
              | some (.ex e h1) => some (.ex e h1)
              | none => none) := p'
          cases hx : xs[i]? with
          | none =>
            rw [hx] at p2
            have hi : vs.length ≤ i := by
              rw [← t.length]
              exact List.getElem?_eq_none_iff.mp hx
            exact .inl ⟨⟨vs, hsq, hi⟩, p2 W' σ' (Ext.refl _) S' rs'⟩
          | some x =>
            rw [hx] at p2
            obtain ⟨v, hvi, rv⟩ := t.get hx
            refine .inr ⟨⟨vs, v, hsq, hvi⟩, fun σ2 H2 => ∃ W2 h2 s2, W2.H = H2 ∧ Ext W1 W2 ∧ Sim X.K W2 h2 ∧ RS X.K W2 s2 σ2 ∧ PstS X.K c D W2 (forE (turnM g m) l n (i + 1) s2 h2), fun σ2 H2 w => ⟨n, Nat.lt_succ_self _, w⟩, fun v2 H2 y => ?_⟩
            obtain ⟨T, z, ev, hT, eh, y2⟩ := y
            have q := y2 vs hsq
            rw [hvi] at q
            cases q
            subst ev
            subst eh
            obtain ⟨W5, hW5, x5, S5, r5⟩ := enm_yld S' hT rv
            rw [Nat.zero_add] at r5
            rw [← hW5]
            have p2 := PstS.shift x5 p2
            have x' := x'.trans x5
            have rs' := rs'.mono x5
            unfold turnM at p2
            cases hgx : g (.tup [.int (i : Int), x]) s' with
            | none =>
              simp only [hgx] at p2
              exact p2.elim
            | some s3 =>
              simp only [hgx] at p2
              refine ho W5 s' s3 σ' _ _ _ rs' r5 hgx fun σ3 rs3 => ⟨W5, h', s3, rfl, S5, rs3, ?_⟩
              cases hm : m s3 h' with
              | none =>
                simp only [hm] at p2
                exact p2.elim
              | some r =>
                simp only [hm] at p2
                cases r with
                | nx s4 h4 => exact fun W4 σ4 x4 S4 rs4 => ⟨W4, h4, s4, rfl, x'.trans x4, S4, rs4, PstS.shift x4 p2⟩
                | cnt s4 h4 => exact fun W4 σ4 x4 S4 rs4 => ⟨W4, h4, s4, rfl, x'.trans x4, S4, rs4, PstS.shift x4 p2⟩
                | brk s4 h4 => exact p2
                | ret x4 h4 => exact p2
                | ex e4 h4 => exact p2
theorem s_while {cd : Expr} {mc : MM Bool} {m : MT} (n : Nat) (hp : PassesOwn (model X.prog X.w) X.A X.env X.xe) (hc : BM X c cd mc) (hb : SsM X c body m) : SM X c (.While cd body [] pos) (whlG mc m n) := ps_wk (ps_while hp hc hb) fun D σ H ⟨W, h, s, e, S, rs, p⟩ => by
  subst e
  refine ⟨fun k σ' H' => ∃ W' h' s', W'.H = H' ∧ Sim X.K W' h' ∧ RS X.K W' s' σ' ∧ PstS X.K c D W' (whlG mc m k s' h'), ⟨n, W, h, s, rfl, S, rs, p⟩, ?_⟩
  rintro k σ' H' ⟨W', h', s', rfl, S', rs', p'⟩
  cases k with
  | zero => exact p'.elim
  | succ k =>
    refine ⟨W', h', s', rfl, S', rs', p'.bnd fun W1 h1 b x1 S1 p1 => ?_⟩
    cases b with
    | false => exact p1 W1 σ' (Ext.refl _) S1 (rs'.mono x1)
    | true =>
      rw [if_pos rfl] at p1
      refine iteT (B := D.nx σ' W1.H) ⟨fun σ2 H2 => ∃ W2 h2 s2, W2.H = H2 ∧ Sim X.K W2 h2 ∧ RS X.K W2 s2 σ2 ∧ PstS X.K c D W2 (whlG mc m k s2 h2), fun σ2 H2 w => ⟨k, Nat.lt_succ_self _, w⟩, W1, h1, s', rfl, S1, rs'.mono x1, ?_⟩
      cases hm : m s' h1 with
      | none =>
        simp only [hm] at p1
        exact p1.elim
      | some r =>
        simp only [hm] at p1
        cases r with
        | nx s4 h4 => exact fun W4 σ4 x4 S4 rs4 => ⟨W4, h4, s4, rfl, S4, rs4, PstS.shift x4 p1⟩
        | cnt s4 h4 => exact fun W4 σ4 x4 S4 rs4 => ⟨W4, h4, s4, rfl, S4, rs4, PstS.shift x4 p1⟩
        | brk s4 h4 => exact p1
        | ret x4 h4 => exact p1
        | ex e4 h4 => exact p1
end
end Mi
set_option maxHeartbeats 2000000
namespace Mi
open PySem L2
theorem set_comm {α : Type} {l : List α} {i j : Nat} {a b : α} (h : i ≠ j) : (l.set i a).set j b = (l.set j b).set i a := List.set_comm a b h
theorem wipe_set {σ : St} {i : Nat} {o : Option V} : ∀ {vs : List Nat}, i ∈ vs → L2.wipe (σ.set i o) vs = L2.wipe σ vs
  | [], h => by cases h
  | v :: vs, h => by
    show (L2.wipe (σ.set i o) vs).set v none = (L2.wipe σ vs).set v none
    have go : ∀ {vs : List Nat}, ¬ i ∈ vs → L2.wipe (σ.set i o) vs = (L2.wipe σ vs).set i o := fun {vs} => by
      induction vs with
      | nil => exact fun _ => rfl
      | cons w ws ih =>
        intro hn
        have h1 : ¬ i ∈ ws := fun z => hn (List.mem_cons_of_mem _ z)
        have h2 : i ≠ w := fun z => hn (by rw [z]; exact List.mem_cons_self ..)
        show (L2.wipe (σ.set i o) ws).set w none = ((L2.wipe σ ws).set w none).set i o
        rw [ih h1, set_comm h2]
    by_cases hm : i ∈ vs
    · rw [wipe_set hm]
    · rcases List.mem_cons.mp h with e | e
      · rw [go hm, e, List.set_set]
      · exact absurd e hm
theorem wipe_get {σ : St} {i : Nat} : ∀ {vs : List Nat}, (L2.wipe σ vs)[i]? = if i ∈ vs ∧ i < σ.length then some none else σ[i]?
  | [] => by
    show σ[i]? = _
    rw [if_neg (by simp)]
  | v :: vs => by
    show ((L2.wipe σ vs).set v none)[i]? = _
    by_cases hv : v = i
    · subst hv
      by_cases hl : v < σ.length
      · rw [List.getElem?_set_self (by rw [wipe_length]; exact hl), if_pos ⟨List.mem_cons_self .., hl⟩]
      · rw [if_neg (fun z => hl z.2), List.getElem?_eq_none (by rw [List.length_set, wipe_length]; omega), List.getElem?_eq_none (by omega)]
    · rw [List.getElem?_set_ne hv, wipe_get (vs := vs)]
      by_cases hm : i ∈ vs ∧ i < σ.length
      · rw [if_pos hm, if_pos ⟨List.mem_cons_of_mem _ hm.1, hm.2⟩]
      · rw [if_neg hm, if_neg fun z => hm ⟨(List.mem_cons.mp z.1).resolve_left fun y => hv y.symm, z.2⟩]
theorem wipe_wipe {σ : St} {vs : List Nat} : L2.wipe (L2.wipe σ vs) vs = L2.wipe σ vs := by
  apply List.ext_getElem?
  intro i
  rw [wipe_get, wipe_get, wipe_length]
  by_cases h : i ∈ vs ∧ i < σ.length
  · rw [if_pos h, if_pos h]
  · rw [if_neg h]
def lcS (g : MV → MS → Option MS) (cd : MM Bool) (el : ME) (s0 : MS) : List MV → List MV → MH → Res (List MV)
  | [], acc, h => ok acc h
  | x :: xs, acc, h => match g x s0 with
    | none => none
    | some s1 => (cd s1 h).bnd fun b h1 => if b = true then (el s1 h1).bnd fun y h2 => if acc.length < lim then lcS g cd el s0 xs (acc ++ [y]) h2 else none else lcS g cd el s0 xs acc h1
def lcL (g : MV → MS → Option MS) (cd : MM Bool) (el : ME) (s0 : MS) (l : Nat) : Nat → Nat → List MV → MH → Res (List MV)
  | 0, _, _, _ => none
  | n + 1, i, acc, h => match h[l]? with
    | some (.lst zs) => match zs[i]? with
      | none => ok acc h
      | some x => match g x s0 with
        | none => none
        | some s1 => (cd s1 h).bnd fun b h1 => if b = true then (el s1 h1).bnd fun y h2 => if acc.length < lim then lcL g cd el s0 l n (i + 1) (acc ++ [y]) h2 else none else lcL g cd el s0 l n (i + 1) acc h1
    | _ => none
def lcE (g : MV → MS → Option MS) (cd : MM Bool) (el : ME) (s0 : MS) (l : Nat) : Nat → Nat → List MV → MH → Res (List MV)
  | 0, _, _, _ => none
  | n + 1, i, acc, h => match h[l]? with
    | some (.lst zs) => match zs[i]? with
      | none => ok acc h
      | some x => match g (.tup [.int (i : Int), x]) s0 with
        | none => none
        | some s1 => (cd s1 h).bnd fun b h1 => if b = true then (el s1 h1).bnd fun y h2 => if acc.length < lim then lcE g cd el s0 l n (i + 1) (acc ++ [y]) h2 else none else lcE g cd el s0 l n (i + 1) acc h1
    | _ => none
@[simp ↓] def lcM (mi : MM MIter) (vs : List Nat) (g : MV → MS → Option MS) (cd : MM Bool) (el : ME) : MM (List MV) := fun s h => (mi s h).bnd fun it h1 => match it with
  | .st its => lcS g cd el (wipeM s vs) its [] h1
  | .dyn l n => lcL g cd el (wipeM s vs) l n 0 [] h1
  | .enm l n => lcE g cd el (wipeM s vs) l n 0 [] h1
section
variable {K : PySem.W.Frag} {c : XC} {α β : Type}
theorem Pst.bnd2 {C1 : Wd → α → Prop} {C2 : Wd → β → Prop} {W W0 : Wd} {r : Res α} {k : α → MH → Res β} (p : Pst K c C2 W0 (r.bnd k)) (x0 : Ext W0 W)
    (i : ∀ W1 h1 a, Ext W W1 → Sim K W1 h1 → Pst K c C2 W0 (k a h1) → C1 W1 a) : Pst K c C1 W r := by
  match r, p with
  | some (.ok a h), p => exact fun W2 x2 s => i W2 h a x2 s p
  | some (.ex e h), p => exact PX.shift x0 p
def TgC (K : PySem.W.Frag) (t : TG) (g : MV → MS → Option MS) (vs : List Nat) : Prop := ∀ (W : Wd) (s s' : MS) (σ : St) (x : MV) (v : V) (Q : St → Hp → Prop), RS K W s σ → RV K W x v → g x s = some s' → (∀ σ', RS K W s' σ' → L2.wipe σ' vs = L2.wipe σ vs → Q σ' W.H) → t v σ W.H Q
theorem tc_one {i : Nat} {vs : List Nat} (hi : i ∈ vs) : TgC K (gName i) (one i) vs := fun W s s' σ x v Q rs r e q => by
  cases e
  exact q _ (rs.set r i) (wipe_set hi)
theorem tc_all {vs : List Nat} : ∀ (is : List Nat), (∀ i ∈ is, i ∈ vs) → ∀ (W : Wd) (s s' : MS) (σ : St) (xs : List MV) (ws : List V) (Q : St → Hp → Prop), RS K W s σ → RVs K W xs ws → putAll is xs s = some s' →
    (∀ σ', RS K W s' σ' → L2.wipe σ' vs = L2.wipe σ vs → Q σ' W.H) → gNames is ws σ W.H Q
  | [], _, W, s, s', σ, [], _, Q, rs, .nil, e, q => by
    cases e
    exact ⟨rfl, q σ rs rfl⟩
  | i :: is, hm, W, s, s', σ, x :: xs, _, Q, rs, .cons r t, e, q => ⟨_, _, rfl, tc_all is (fun j hj => hm j (List.mem_cons_of_mem _ hj)) W _ s' _ xs _ Q (rs.set r i) t e fun σ' rs' hw => q σ' rs' (hw.trans (wipe_set (hm i (List.mem_cons_self ..))))⟩
  | [], _, _, _, _, _, _ :: _, _, _, _, _, e, _ => by cases e
  | _ :: _, _, _, _, _, _, [], _, _, _, _, e, _ => by cases e
theorem tc_tup {vs : List Nat} (is : List Nat) (hm : ∀ i ∈ is, i ∈ vs) : TgC K (gTup K is.length (gNames is)) (unp is) vs := fun W s s' σ x v Q rs r e q => by
  cases x <;> first | (cases e; done) | skip
  rename_i xs
  obtain ⟨a, ws, rfl, hq, t⟩ := tup_sq r
  exact ⟨a, ws, rfl, hq, by rw [← t.length]; exact putAll_len e, tc_all is hm W s s' σ xs ws Q rs t e q⟩
theorem lc_turn {W0 W : Wd} {h : MH} {s0 : MS} {σ : St} {vs : List Nat} {D : Addr} {acc : List MV} {aV : List V} {g : MV → MS → Option MS} {cd : MM Bool} {el : ME} {t : TG} {x : MV} {v : V} {C : Wd → List MV → Prop} {Nx : Hp → Prop}
    {k : List MV → MH → Res (List MV)} (ho : TgC K t g vs) (x0 : Ext W0 W) (S : Sim K W h) (hD0 : W0.H D = none) (hh : W.hid D) (hD : W.H D = some (.lst aV)) (ra : RVs K W acc aV) (rs : RS K W0 s0 (L2.wipe σ vs)) (r : RV K W x v)
    (p : Pst K c C W0 (match g x s0 with
      | none => none
      | some s1 => (cd s1 h).bnd fun b h1 => if b = true then (el s1 h1).bnd fun y h2 => if acc.length < lim then k (acc ++ [y]) h2 else none else k acc h1))
    (nx : ∀ W' h' acc' aV', Ext W0 W' → Sim K W' h' → W'.hid D → W'.H D = some (.lst aV') → RVs K W' acc' aV' → Pst K c C W0 (k acc' h') → Nx W'.H) :
    t v (L2.wipe σ vs) W.H fun σ2 H2 => L2.wipe σ2 vs = L2.wipe σ vs ∧ tMB K c cd σ2 H2 fun b H3 => if b = true then tM K c el σ2 H3 fun y H4 => ∃ acc, H4 D = some (.lst acc) ∧ acc.length < sizeLine ∧ Nx (upd H4 D (.lst (acc ++ [y]))) else Nx H3 := by
  cases hg : g x s0 with
  | none =>
    rw [hg] at p
    exact p.elim
  | some s1 =>
    rw [hg] at p
    refine ho W s0 s1 _ x v _ (rs.mono x0) r hg fun σ2 rs2 hw => ⟨hw.trans wipe_wipe, W, h, s1, rfl, S, rs2, ?_⟩
    refine Pst.bnd2 p x0 fun W1 h1 b x1 S1 p1 => ?_
    obtain ⟨hD1, hh1⟩ := x1.hidf D _ hh hD
    cases b with
    | false => exact nx W1 h1 acc aV (x0.trans x1) S1 hh1 hD1 (ra.mono x1) p1
    | true =>
      refine iteT (B := Nx W1.H) ⟨W1, h1, s1, rfl, S1, rs2.mono x1, ?_⟩
      rw [if_pos rfl] at p1
      refine Pst.bnd2 p1 (x0.trans x1) fun W2 h2 y x2 S2 p2 u r2 => ?_
      obtain ⟨hD2, hh2⟩ := x2.hidf D _ hh1 hD1
      by_cases hl : acc.length < lim
      · rw [if_pos hl] at p2
        refine ⟨aV, hD2, Nat.lt_of_lt_of_le (by rw [← ra.length]; exact hl) (lim_line (Nat.le_refl _)), ?_⟩
        exact nx (W2.wr D (.lst (aV ++ [u]))) h2 (acc ++ [y]) (aV ++ [u]) (Ext.wrh hh2 S2 ((x0.trans x1).trans x2) hD0) (S2.wrh hh2) hh2 upd_same ((((ra.mono x1).mono x2).append (.one r2)).wrh hh2) p2
      · rw [if_neg hl] at p2
        exact p2.elim
end
section
variable {X : Cx} {c : XC}
theorem lc_of {K : PySem.W.Frag} {vs : List Nat} {mi : MM MIter} {t : TG} {g : MV → MS → Option MS} {cd : MM Bool} {el : ME} (ho : TgC K t g vs) {σ : St} {H : Hp} {Q : VK} (q : tML K c (lcM mi vs g cd el) σ H Q) : tLc (tMI K c mi) t (tMB K c cd) (tM K c el) vs σ H Q := by
  obtain ⟨W, h, s, e, S, rs, p⟩ := q
  subst e
  refine ⟨W, h, s, rfl, S, rs, p.bnd fun W1 h1 it x1 S1 p1 J jr D hD => ?_⟩
  have rs1 : RS K W1 (wipeM s vs) (L2.wipe σ vs) := (rs.mono x1).wipe _
  have xh : Ext W1 (W1.hide D (.lst [])) := Ext.hide S1 hD
  have Sh : Sim K (W1.hide D (.lst [])) h1 := S1.hide hD
  have fin : ∀ (W' : Wd) (h' : MH) (acc : List MV) (aV : List V), Ext W1 W' → Sim K W' h' → W'.hid D → W'.H D = some (.lst aV) → RVs K W' acc aV → Pst K c (CL K Q) W1 (ok acc h') → Q (.ref D) W'.H := fun W' h' acc aV x' S' hh' hD' ra p' => by
    have q := p' (W'.bare D) (x'.bare hD) (S'.bare hh') aV D (ra.bare hh') (if_pos rfl)
    rw [Wd.bare_upd hD'] at q
    exact q
  cases it with
  | st its =>
    refine ⟨fun i n H' => n = its.length - i ∧ i ≤ its.length ∧ ∃ W' h' acc aV, W'.H = H' ∧ Ext W1 W' ∧ Sim K W' h' ∧ W'.hid D ∧ W'.H D = some (.lst aV) ∧ RVs K W' acc aV ∧ Pst K c (CL K Q) W1 (lcS g cd el (wipeM s vs) (its.drop i) acc h'),
      ⟨its.length, rfl, Nat.zero_le _, W1.hide D (.lst []), h1, [], [], rfl, xh, Sh, .inl rfl, upd_same, .nil, p1⟩, ?_⟩
    rintro i n H' ⟨hn, hle, W', h', acc, aV, rfl, x', S', hh', hD', ra, p'⟩
    obtain ⟨j1, j2⟩ := jr i W' h' x' S'
    by_cases hi : i < its.length
    · obtain ⟨jg, jy⟩ := j1 its[i] (List.getElem?_eq_getElem hi)
      rw [List.drop_eq_getElem_cons hi] at p'
      refine .inr ⟨jg, fun H2 => ∃ W2 h2 acc2 aV2, W2.H = H2 ∧ Ext W1 W2 ∧ Sim K W2 h2 ∧ W2.hid D ∧ W2.H D = some (.lst aV2) ∧ RVs K W2 acc2 aV2 ∧ Pst K c (CL K Q) W1 (lcS g cd el (wipeM s vs) (its.drop (i + 1)) acc2 h2),
        fun H2 w => ⟨its.length - (i + 1), by omega, rfl, by omega, w⟩, fun v H2 y => ?_⟩
      obtain ⟨W2, rfl, x2, S2, r2⟩ := jy v H2 y
      obtain ⟨hD2, hh2⟩ := x2.hidf D _ hh' hD'
      unfold lcS at p'
      exact lc_turn ho (x'.trans x2) S2 hD hh2 hD2 (ra.mono x2) rs1 r2 p' fun W3 h3 acc3 aV3 x3 S3 hh3 hD3 ra3 p3 => ⟨W3, h3, acc3, aV3, rfl, x3, S3, hh3, hD3, ra3, p3⟩
    · have e0 : its.drop i = [] := List.drop_eq_nil_of_le (by omega)
      rw [e0] at p'
      exact .inl ⟨j2 (by omega), fin W' h' acc aV x' S' hh' hD' ra p'⟩
  | dyn l k =>
    obtain ⟨a, ea, rfl⟩ := jr
    have hl1 : l < W1.n := by
      rw [S1.n]
      exact S1.lt l a ea
    refine ⟨fun i n H' => ∃ W' h' acc aV, W'.H = H' ∧ Ext W1 W' ∧ Sim K W' h' ∧ W'.hid D ∧ W'.H D = some (.lst aV) ∧ RVs K W' acc aV ∧ Pst K c (CL K Q) W1 (lcL g cd el (wipeM s vs) l n i acc h'),
      ⟨k, W1.hide D (.lst []), h1, [], [], rfl, xh, Sh, .inl rfl, upd_same, .nil, p1⟩, ?_⟩
    rintro i n H' ⟨W', h', acc, aV, rfl, x', S', hh', hD', ra, p'⟩
    cases n with
    | zero => exact p'.elim
    | succ n =>
      unfold lcL at p'
      cases hl : h'[l]? with
      | none =>
        rw [hl] at p'
        exact p'.elim
      | some o =>
        rw [hl] at p'
        cases o with
        | dead => exact p'.elim
        | dK kvs => exact p'.elim
        | dT kvs => exact p'.elim
        | ins cn kvs => exact p'.elim
        | lst zs =>
          obtain ⟨a', ea'⟩ := S'.live l _ hl (by intro z; cases z)
          obtain rfl : a' = a := by
            rcases x'.agree l hl1 with q | q
            · rw [q, ea] at ea'
              exact (Option.some.inj ea').symm
            · rw [q] at ea'
              cases ea'
          obtain ⟨o2, e2, ro⟩ := S'.obj l a' ea'
          rw [hl] at e2
          cases e2
          obtain ⟨ws, hv, t⟩ := ro
          have hsq : SqL K W'.H a' ws := .inl (.inl hv)
          dsimp only at p'
          cases hx : zs[i]? with
          | none =>
            rw [hx] at p'
            have hi : ws.length ≤ i := by
              rw [← t.length]
              exact List.getElem?_eq_none_iff.mp hx
            exact .inl ⟨⟨ws, hsq, hi⟩, fin W' h' acc aV x' S' hh' hD' ra p'⟩
          | some x =>
            rw [hx] at p'
            obtain ⟨v, hvi, rv⟩ := t.get hx
            refine .inr ⟨⟨ws, v, hsq, hvi⟩, fun H2 => ∃ W2 h2 acc2 aV2, W2.H = H2 ∧ Ext W1 W2 ∧ Sim K W2 h2 ∧ W2.hid D ∧ W2.H D = some (.lst aV2) ∧ RVs K W2 acc2 aV2 ∧ Pst K c (CL K Q) W1 (lcL g cd el (wipeM s vs) l n (i + 1) acc2 h2),
              fun H2 w => ⟨n, Nat.lt_succ_self _, w⟩, fun v2 H2 y => ?_⟩
            obtain ⟨rfl, y2⟩ := y
            have := y2 ws hsq
            rw [hvi] at this
            cases this
            exact lc_turn ho x' S' hD hh' hD' ra rs1 rv p' fun W3 h3 acc3 aV3 x3 S3 hh3 hD3 ra3 p3 => ⟨W3, h3, acc3, aV3, rfl, x3, S3, hh3, hD3, ra3, p3⟩
  | enm l k =>
    obtain ⟨a, ea, rfl⟩ := jr
    have hl1 : l < W1.n := by
      rw [S1.n]
      exact S1.lt l a ea
    refine ⟨fun i n H' => ∃ W' h' acc aV, W'.H = H' ∧ Ext W1 W' ∧ Sim K W' h' ∧ W'.hid D ∧ W'.H D = some (.lst aV) ∧ RVs K W' acc aV ∧ Pst K c (CL K Q) W1 (lcE g cd el (wipeM s vs) l n i acc h'),
      ⟨k, W1.hide D (.lst []), h1, [], [], rfl, xh, Sh, .inl rfl, upd_same, .nil, p1⟩, ?_⟩
    rintro i n H' ⟨W', h', acc, aV, rfl, x', S', hh', hD', ra, p'⟩
    cases n with
    | zero => exact p'.elim
    | succ n =>
      unfold lcE at p'
      cases hl : h'[l]? with
      | none =>
        rw [hl] at p'
        exact p'.elim
      | some o =>
        rw [hl] at p'
        cases o with
        | dead => exact p'.elim
        | dK kvs => exact p'.elim
        | dT kvs => exact p'.elim
        | ins cn kvs => exact p'.elim
        | lst zs =>
          obtain ⟨a', ea'⟩ := S'.live l _ hl (by intro z; cases z)
          obtain rfl : a' = a := by
            rcases x'.agree l hl1 with q | q
            · rw [q, ea] at ea'
              exact (Option.some.inj ea').symm
            · rw [q] at ea'
              cases ea'
          obtain ⟨o2, e2, ro⟩ := S'.obj l a' ea'
          rw [hl] at e2
          cases e2
          obtain ⟨ws, hv, t⟩ := ro
          have hsq : SqL K W'.H a' ws := .inl (.inl hv)
          dsimp only at p'
          cases hx : zs[i]? with
          | none =>
            rw [hx] at p'
            have hi : ws.length ≤ i := by
              rw [← t.length]
              exact List.getElem?_eq_none_iff.mp hx
            exact .inl ⟨⟨ws, hsq, hi⟩, fin W' h' acc aV x' S' hh' hD' ra p'⟩
          | some x =>
            rw [hx] at p'
            obtain ⟨v, hvi, rv⟩ := t.get hx
            refine .inr ⟨⟨ws, v, hsq, hvi⟩, fun H2 => ∃ W2 h2 acc2 aV2, W2.H = H2 ∧ Ext W1 W2 ∧ Sim K W2 h2 ∧ W2.hid D ∧ W2.H D = some (.lst aV2) ∧ RVs K W2 acc2 aV2 ∧ Pst K c (CL K Q) W1 (lcE g cd el (wipeM s vs) l n (i + 1) acc2 h2),
              fun H2 w => ⟨n, Nat.lt_succ_self _, w⟩, fun v2 H2 y => ?_⟩
            obtain ⟨T, z, ev, hT, eh, y2⟩ := y
            have q := y2 ws hsq
            rw [hvi] at q
            cases q
            subst ev
            subst eh
            obtain ⟨W5, hW5, x5, S5, r5⟩ := enm_yld S' hT rv
            rw [Nat.zero_add] at r5
            rw [← hW5]
            obtain ⟨hD5, hh5⟩ := x5.hidf D _ hh' hD'
            exact lc_turn ho (x'.trans x5) S5 hD hh5 hD5 (ra.mono x5) rs1 r5 p' fun W3 h3 acc3 aV3 x3 S3 hh3 hD3 ra3 p3 => ⟨W3, h3, acc3, aV3, rfl, x3, S3, hh3, hD3, ra3, p3⟩
theorem lm_lc {elt tg iter : Expr} {ifs : List Expr} {scope : Scope} {own : List (Str × Nat)} {pos : Pos} {mi : MM MIter} {t : TG} {g : MV → MS → Option MS} {cd : MM Bool} {el : ME} (ho : TgC X.K t g (own.map (·.2)))
    (h : PE X (.ListComp elt [⟨tg, iter, ifs, 0⟩] scope pos) (tLc (tMI X.K c mi) t (tMB X.K c cd) (tM X.K c el) (own.map (·.2)))) : LM X c (.ListComp elt [⟨tg, iter, ifs, 0⟩] scope pos) (lcM mi (own.map (·.2)) g cd el) := pe_wk h fun _ _ _ q => lc_of ho q
theorem s_lcF {elt tg iter : Expr} {ifs : List Expr} {scope : Scope} {own : List (Str × Nat)} {pos spos py : Pos} {y : Str} {i : Nat} {mi : MM MIter} {t : TG} {g : MV → MS → Option MS} {cd : MM Bool} {el : ME} (ho : TgC X.K t g (own.map (·.2)))
    (h : PS X (.Assign [.Name y py] (.ListComp elt [⟨tg, iter, ifs, 0⟩] scope pos) spos) (tAsg (tLc (tMI X.K c mi) t (tMB X.K c cd) (tM X.K c el) (own.map (·.2))) (gName i))) : SM X c (.Assign [.Name y py] (.ListComp elt [⟨tg, iter, ifs, 0⟩] scope pos) spos) (setS i (flsM (lcM mi (own.map (·.2)) g cd el))) :=
  ps_wk h fun D σ H ⟨W, h, s, e, S, rs, p⟩ => by
    subst e
    exact lc_of ho (fls_of ⟨W, h, s, rfl, S, rs, p.bnd fun W1 h1 y x1 S1 p1 v r1 => p1 W1 _ (Ext.refl _) S1 ((rs.mono x1).set r1 i)⟩)
theorem pts_M {m : MM Bool} {cx : Expr} (h : BM X c cx m) : PTs X [cx] (tMB X.K c m) := pts_one h
theorem pts_y : PTs X [] (tMB X.K c yesT) := ⟨fun pins s σ H Q I h => pts_nil.run pins s σ H Q I (by
  obtain ⟨W, h, s, e, S, rs, p⟩ := h
  subst e
  exact p W (Ext.refl _) S)⟩
end
abbrev MF := List MV → MH → Res MV
@[simp ↓] def noex (r : Res MV) : Res MV := match r with
  | some (.ex _ _) => none
  | r => r
@[simp ↓] def defM (np n : Nat) (m : MT) : MF := fun xs h => if xs.length = np then (match m (xs.map some ++ List.replicate (n - np) none) h with
  | some (.nx _ h') => ok .non h'
  | some (.ret x h') => ok x h'
  | some (.ex e h') => some (.ex e h')
  | _ => none) else none
def spM (K : PySem.W.Frag) (mg : Str → Option Value) (np : Nat) (f : MF) : Sp := fun vs H Q E => ∃ W h xs, W.H = H ∧ Sim K W h ∧ RVs K W xs vs ∧ xs.length = np ∧ Pst K ⟨mg, E⟩ (CV K Q) W (f xs h)
@[simp ↓] def callM (f : MF) (ds : List MV) (a : MM (List MV)) : ME := fun s h => (a s h).bnd fun xs h1 => noex (f (xs ++ ds) h1)
section
variable {P : Program} {w : World} {K : PySem.W.Frag} {mg : Str → Option Value} {base : Heap}
theorem body_ok {N : List Str} {vs : List V} {E : XK} {np : Nat} {m : MT} {Q : VK} {H : Hp} (q : spM K mg np (defM np N.length m) vs H Q E) : tS K ⟨mg, E⟩ m { nx := fun _ H' => Q .non H', rt := Q } (start N vs) H := by
  obtain ⟨W, h, xs, rfl, S, r, hl, p⟩ := q
  unfold defM at p
  rw [if_pos hl] at p
  refine ⟨W, h, xs.map some ++ List.replicate (N.length - np) none, rfl, S, ?_, ?_⟩
  · unfold L2.start
    rw [← r.length, hl]
    exact RS.start r _
  · cases hm : m (xs.map some ++ List.replicate (N.length - np) none) h with
    | none =>
      rw [hm] at p
      exact p.elim
    | some o =>
      rw [hm] at p
      cases o with
      | nx s1 h1 => exact fun W1 σ1 x1 S1 rs1 => p W1 x1 S1 _ .non
      | ret x h1 => exact fun W1 v x1 S1 r1 => p W1 x1 S1 v r1
      | brk s1 h1 => exact p.elim
      | cnt s1 h1 => exact p.elim
      | ex e h1 => exact p
theorem fn_mir {x qual : Str} {st : Stmt} {f : Addr} {fd : FuncData} {N ps : List Str} {k : Nat} {m : MT} (F : Fun K x qual st f fd) (S : FnScope N ps (defScope st))
    (hb : ∀ (cdv : Value) (A : Around) (outer : List Env) (s : Shared) (H : Hp) (E : XK), Room k (A.deeper (PyProof.Rows.envOfC qual (defScope st) s.heap.objs.size f cdv)) → SsM (cxOf CX0 P w K mg base N qual (defScope st) f cdv A outer s H E).nox ⟨mg, E⟩ (defBody st) m) :
    FnOk P w K mg base CX0 (k + 1) f fd ps (spM K mg ps.length (defM ps.length N.length m)) := by
  refine F.ok S (fun vs H Q E h => ?_) (fun cdv A outer s H vs Q E hr h => ?_)
  · obtain ⟨W, h, xs, _, _, r, hl, _⟩ := h
    rw [← r.length, hl]
  · exact ⟨_, hb cdv A outer s H E hr, body_ok h⟩
theorem noex_ok {c c' : XC} {C : Wd → MV → Prop} {W : Wd} {r : Res MV} (p : Pst K c C W (noex r)) : Pst K c' C W r := by
  unfold noex at p
  match r, p with
  | some (.ok a h), p => exact p
end
section
variable {X : Cx} {c : XC} {k : Nat} {f : Addr} {fd : FuncData} {ps : List Str} {ds : List Value} {dvs : List V} {dms : List MV} {x : Str} {p pos : Pos} {e : Expr} {es : List Expr} {m : MM (List MV)} {np : Nat} {fM : MF}
theorem tCall_of {K : PySem.W.Frag} {mg : Str → Option Value} (hd : ∀ W, RVs K W dms dvs) (hn : ∀ xs h, (fM xs h).isSome = true → xs.length = np) {σ : St} {H : Hp} {Q : VK} (q : tM K c (callM fM dms m) σ H Q) : tCall (spM K mg np fM) dvs E0 (tMA K c m) σ H Q := by
  obtain ⟨W, h, s, e, S, rs, p⟩ := q
  subst e
  refine ⟨W, h, s, rfl, S, rs, p.bnd fun W1 h1 xs x1 S1 p1 vs r1 => ?_⟩
  refine ⟨W1, h1, xs ++ dms, rfl, S1, r1.append (hd W1), ?_, noex_ok p1⟩
  cases hf : fM (xs ++ dms) h1 with
  | none =>
    rw [hf] at p1
    exact p1.elim
  | some o => exact hn _ h1 (by rw [hf]; rfl)
theorem em_call (F : FnOk X.prog X.w X.K X.mg X.base CX0 k f fd ps (spM X.K X.mg np fM)) (hn : ∀ xs h, (fM xs h).isSome = true → xs.length = np) (hr : Room k X.A) (hg : Gl X x) (hm : X.mg x = some (.ref f)) (hk : PySem.W.keepIn X.K (.ref f) = true) (hb : Binds X.K fd ps ds) (hd : Vals dvs ds) (hd2 : ∀ W, RVs X.K W dms dvs)
    (ha : AM X c (e :: es) m) (hdb : (x == ("__debug__" : Str)) = false := by decide) (he : starEach (e :: es) X.env = (false, eval e X.env) :: starEach es X.env := by rfl) (hpl : (backTo pos (starEach es X.env)).any (·.1) = false := by rfl) :
    EM X c (.Call (.Name x p) (e :: es) [] pos) (callM fM dms m) := pe_wk (pe_call F hr hg hm hk hb hd pass0 ha hdb he hpl) fun σ H Q q => tCall_of hd2 hn q
theorem defM_len {n : Nat} {m : MT} {xs : List MV} {h : MH} (e : (defM np n m xs h).isSome = true) : xs.length = np := by
  unfold defM at e
  by_cases q : xs.length = np
  · exact q
  · rw [if_neg q] at e
    cases e
def pick {α : Type} (is : List Nat) (l : List α) : List α := is.filterMap fun i => l[i]?
theorem RVs.pick {K : PySem.W.Frag} {W : Wd} {xs : List MV} {vs : List V} (r : RVs K W xs vs) : ∀ is : List Nat, RVs K W (Mi.pick is xs) (Mi.pick is vs)
  | [] => .nil
  | i :: is => by
    have ih := RVs.pick r is
    unfold Mi.pick at ih ⊢
    rw [List.filterMap_cons, List.filterMap_cons]
    cases hx : xs[i]? with
    | none =>
      have hv : vs[i]? = none := List.getElem?_eq_none (by rw [← r.length]; exact List.getElem?_eq_none_iff.mp hx)
      rw [hv]
      exact ih
    | some y =>
      obtain ⟨v, hv, rv⟩ := r.get hx
      rw [hv]
      exact .cons rv ih
theorem vals_pick {xs : List V} {us : List Value} (r : Vals xs us) : ∀ is : List Nat, Vals (Mi.pick is xs) (Mi.pick is us)
  | [] => .nil
  | i :: is => by
    have ih := vals_pick r is
    unfold Mi.pick at ih ⊢
    rw [List.filterMap_cons, List.filterMap_cons]
    cases hx : xs[i]? with
    | none =>
      rw [r.none_of hx]
      exact ih
    | some y =>
      obtain ⟨v, hv, rv⟩ := r.get hx
      rw [hv]
      exact .cons rv ih
@[simp ↓] def callKM (f : MF) (n k : Nat) (is : List Nat) (ds : List MV) (a kw : MM (List MV)) : ME := fun s h => (a s h).bnd fun xs h1 => (kw s h1).bnd fun zs h2 => if xs.length = n ∧ zs.length = k then noex (f (pick is (xs ++ zs ++ ds)) h2) else none
abbrev KM (X : Cx) (c : XC) (kws : List Keyword) (m : MM (List MV)) : Prop := PK X kws (tMA X.K c m)
theorem pk_wk {kws : List Keyword} {t t' : TA} (h : PK X kws t) (w : ∀ σ H Q, t' σ H Q → t σ H Q) : PK X kws t' := ⟨fun po pins s σ H Q I q => h.run po pins s σ H Q I (w _ _ _ q)⟩
theorem km_nil : KM X c [] nilA := pk_wk pk_nil fun σ H Q ⟨W, h, s, e, S, rs, p⟩ => by
  subst e
  exact p W (Ext.refl W) S [] .nil
theorem km_cons {ma : ME} {mr : MM (List MV)} {nm : Option Str} {kpos : Pos} {kws : List Keyword} (ha : EM X c e ma) (hr : KM X c kws mr) : KM X c (⟨nm, e, kpos⟩ :: kws) (consA ma mr) :=
  pk_wk (pk_cons ha hr) fun σ H Q ⟨W, h, s, e, S, rs, p⟩ => by
    subst e
    refine ⟨W, h, s, rfl, S, rs, p.bnd fun W1 h1 x x1 S1 p1 v r1 => ?_⟩
    exact ⟨W1, h1, s, rfl, S1, rs.mono x1, p1.bnd fun W2 h2 xs x2 S2 p2 vs r2 => p2 W2 (Ext.refl _) S2 _ (.cons (r1.mono x2) r2)⟩
theorem pe_kw0 {ks : List Str} {sp : Sp} {kws : List Keyword} {tk : TA} {g : List Value → List Value → List Value} {gV : List V → List V → List V} (F : FnOk X.prog X.w X.K X.mg X.base CX0 k f fd ps sp) (hr : Room k X.A) (hg : Gl X x) (hm : X.mg x = some (.ref f)) (hk : PySem.W.keepIn X.K (.ref f) = true)
    (hb : KBn X.K fd ps 0 ks g gV) (hkw : PK X kws tk) (hall : (backToKw pos (keywordEach kws X.env)).all (·.1.isSome) = true := by rfl) (hks : (backToKw pos (keywordEach kws X.env)).filterMap (·.1) = ks := by rfl)
    (hdb : (x == ("__debug__" : Str)) = false := by decide) (hpl : ((backTo pos (starEach [] X.env)).any (·.1) || (backToKw pos (keywordEach kws X.env)).any (·.1.isNone)) = false := by rfl) :
    PE X (.Call (.Name x p) [] kws pos) (tCallN 0 ks.length sp gV E0 tNil tk) := by
  refine ⟨fun pins s σ H Q I h => wpAny_Call_Name_kw (ld_glob I hg hm ?_ hdb)⟩
  refine PySem.W.callWith_KW0 (h₀ := X.base) I.ok.mod.kin hk hall (thn (hkw.run pos pins s σ H _ I h) fun ws s2 ⟨zs, H2, I2, rz, l1, l2, q2⟩ => ⟨I2.kIn, ?_⟩) hpl
  rw [hks]
  exact run_fnN (us := []) F hr hb pass0 I2 .nil rz l1 l2 q2
theorem em_callK0 {kk : Nat} {ks : List Str} {kws : List Keyword} {mk : MM (List MV)} {is : List Nat} {g : List Value → List Value → List Value} (F : FnOk X.prog X.w X.K X.mg X.base CX0 k f fd ps (spM X.K X.mg np fM)) (hn : ∀ xs h, (fM xs h).isSome = true → xs.length = np) (hr : Room k X.A) (hg : Gl X x) (hm : X.mg x = some (.ref f))
    (hk : PySem.W.keepIn X.K (.ref f) = true) (hb : KBn X.K fd ps 0 ks g (fun vs zs => pick is (vs ++ zs ++ dvs))) (hd2 : ∀ W, RVs X.K W dms dvs) (hkw : KM X c kws mk) (hkk : ks.length = kk := by rfl) (hall : (backToKw pos (keywordEach kws X.env)).all (·.1.isSome) = true := by rfl) (hks : (backToKw pos (keywordEach kws X.env)).filterMap (·.1) = ks := by rfl)
    (hdb : (x == ("__debug__" : Str)) = false := by decide) (hpl : ((backTo pos (starEach [] X.env)).any (·.1) || (backToKw pos (keywordEach kws X.env)).any (·.1.isNone)) = false := by rfl) :
    EM X c (.Call (.Name x p) [] kws pos) (callKM fM 0 kk is dms nilA mk) := pe_wk (pe_kw0 F hr hg hm hk hb hkw hall hks hdb hpl) fun σ H Q ⟨W, h, s, e, S, rs, p⟩ => by
  subst e
  subst hkk
  have p' : Pst X.K c (CV X.K Q) W ((mk s h).bnd fun zs h2 => if ([] : List MV).length = 0 ∧ zs.length = ks.length then noex (fM (pick is ([] ++ zs ++ dms)) h2) else none) := p
  refine ⟨W, h, s, rfl, S, rs, p'.bnd fun W2 h2 zs x2 S2 p2 ws r2 => ?_⟩
  by_cases q : ([] : List MV).length = 0 ∧ zs.length = ks.length
  · rw [if_pos q] at p2
    refine ⟨rfl, by rw [← r2.length]; exact q.2, W2, h2, _, rfl, S2, (((RVs.nil).append r2).append (hd2 W2)).pick is, ?_, noex_ok p2⟩
    cases hf : fM (pick is ([] ++ zs ++ dms)) h2 with
    | none =>
      rw [hf] at p2
      exact p2.elim
    | some o => exact hn _ h2 (by rw [hf]; rfl)
  · rw [if_neg q] at p2
    exact p2.elim
end
mutual
def frzV : Nat → MV → MH → Option (MV × MH)
  | 0, _, _ => none
  | n + 1, x, h => match x with
    | .ref l => match h[l]? with
      | some (.lst xs) => match frzL n xs h with
        | some (ys, h1) => some (.fls ys, h1.set l .dead)
        | none => none
      | _ => none
    | x => some (x, h)
def frzL : Nat → List MV → MH → Option (List MV × MH)
  | _, [], h => some ([], h)
  | n, x :: xs, h => match frzV n x h with
    | some (y, h1) => match frzL n xs h1 with
      | some (ys, h2) => some (y :: ys, h2)
      | none => none
    | none => none
end
@[simp ↓] def frzM (m : ME) : ME := fun s h => (m s h).bnd fun x h1 => match frzV 4 x h1 with
  | some (y, h2) => ok y h2
  | none => none
end Mi
set_option maxHeartbeats 2000000
namespace Mi
open PySem L2
structure Stood (W W' : Wd) : Prop where
  H : W'.H = W.H
  hid : W'.hid = W.hid
  f : ∀ j b, W'.f j = some b → W.f j = some b
  x : Ext W W'
theorem Stood.refl (W : Wd) : Stood W W := ⟨rfl, rfl, fun _ _ e => e, Ext.refl W⟩
theorem Stood.trans {W W1 W2 : Wd} (a : Stood W W1) (b : Stood W1 W2) : Stood W W2 := ⟨b.H.trans a.H, b.hid.trans a.hid, fun j z e => a.f j z (b.f j z e), a.x.trans b.x⟩
theorem Stood.kill (W : Wd) (l : Nat) : Stood W (W.kill l) := ⟨rfl, rfl, fun _ _ e => (Wd.kill_some e).2, Ext.kill W l⟩
section
variable {K : PySem.W.Frag}
mutual
theorem frzV_ok : ∀ (n : Nat) (x : MV) (h : MH) (y : MV) (h' : MH) (W : Wd) (v : V), frzV n x h = some (y, h') → Sim K W h → RV K W x v → ∃ W', Stood W W' ∧ Sim K W' h' ∧ RV K W' y v
  | 0, _, _, _, _, _, _, e, _, _ => by
    unfold frzV at e
    cases e
  | n + 1, x, h, y, h', W, v, e, S, r => by
    unfold frzV at e
    cases x with
    | ref l =>
      dsimp only at e
      cases hl : h[l]? with
      | none =>
        rw [hl] at e
        cases e
      | some o =>
        rw [hl] at e
        cases o with
        | dead => cases e
        | dK kvs => cases e
        | dT kvs => cases e
        | ins cn kvs => cases e
        | lst xs =>
          dsimp only at e
          cases hf : frzL n xs h with
          | none =>
            rw [hf] at e
            cases e
          | some q =>
            obtain ⟨ys, h1⟩ := q
            rw [hf] at e
            cases e
            obtain ⟨a, vs, rfl, ea, eH, t⟩ := S.lstAt hl r
            obtain ⟨W1, T, S1, t1⟩ := frzL_ok n xs h ys h1 W vs hf S t
            refine ⟨W1.kill l, T.trans (Stood.kill W1 l), S1.kill l, .fls ⟨fun j z => ?_, ?_⟩ ?_ (t1.mono (Ext.kill W1 l))⟩
            · obtain ⟨hj, e2⟩ := Wd.kill_some z
              exact hj (S.inj j l a (T.f j a e2) ea)
            · show ¬ W1.hid a
              rw [T.hid]
              exact S.nhid l a ea
            · show W1.H a = _
              rw [T.H]
              exact eH
    | _ =>
      cases e
      exact ⟨W, Stood.refl W, S, r⟩
theorem frzL_ok : ∀ (n : Nat) (xs : List MV) (h : MH) (ys : List MV) (h' : MH) (W : Wd) (vs : List V), frzL n xs h = some (ys, h') → Sim K W h → RVs K W xs vs → ∃ W', Stood W W' ∧ Sim K W' h' ∧ RVs K W' ys vs
  | n, [], h, ys, h', W, vs, e, S, r => by
    unfold frzL at e
    cases e
    exact ⟨W, Stood.refl W, S, r⟩
  | n, x :: xs, h, ys, h', W, _, e, S, .cons r t => by
    unfold frzL at e
    cases hf : frzV n x h with
    | none =>
      rw [hf] at e
      cases e
    | some q =>
      obtain ⟨y, h1⟩ := q
      rw [hf] at e
      dsimp only at e
      cases hf2 : frzL n xs h1 with
      | none =>
        rw [hf2] at e
        cases e
      | some q2 =>
        obtain ⟨zs, h2⟩ := q2
        rw [hf2] at e
        cases e
        obtain ⟨W1, T1, S1, r1⟩ := frzV_ok n x h y h1 W _ hf S r
        obtain ⟨W2, T2, S2, t2⟩ := frzL_ok n xs h1 zs h' W1 _ hf2 S1 (t.mono T1.x)
        exact ⟨W2, T1.trans T2, S2, .cons (r1.mono T2.x) t2⟩
end
end
section
variable {X : Cx} {c : XC} {e : Expr} {es : List Expr} {pos : Pos} {K : PySem.W.Frag} {W : Wd}
theorem em_frz {m : ME} (h : EM X c e m) : EM X c e (frzM m) := pe_wk h fun σ H Q ⟨W, h, s, e, S, rs, p⟩ => by
  subst e
  refine ⟨W, h, s, rfl, S, rs, p.bnd fun W1 h1 x x1 S1 p1 v r1 => ?_⟩
  cases hf : frzV 4 x h1 with
  | none =>
    rw [hf] at p1
    exact p1.elim
  | some q =>
    rw [hf] at p1
    obtain ⟨W2, T, S2, r2⟩ := frzV_ok 4 x h1 q.1 q.2 W1 v hf S1 r1
    rw [← T.H]
    exact p1 W2 T.x S2 v r2
def CallM (K : PySem.W.Frag) (c : XC) (r : List V → Hp → VK → Prop) (f : List MV → MH → Res MV) : Prop :=
  ∀ (W : Wd) (h : MH) (xs : List MV) (vs : List V) (Q : VK), Sim K W h → RVs K W xs vs → Pst K c (CV K Q) W (f xs h) → r vs W.H Q
def CallL (K : PySem.W.Frag) (c : XC) (r : List V → Hp → VK → Prop) (f : List MV → MH → Res (List MV)) : Prop :=
  ∀ (W : Wd) (h : MH) (xs : List MV) (vs : List V) (Q : VK), Sim K W h → RVs K W xs vs → Pst K c (CL K Q) W (f xs h) → r vs W.H Q
@[simp ↓] def bltM (f : List MV → MH → Res MV) (a : MM (List MV)) : ME := fun s h => (a s h).bnd f
@[simp ↓] def bltL (f : List MV → MH → Res (List MV)) (a : MM (List MV)) : MM (List MV) := fun s h => (a s h).bnd f
theorem tCB_of {r : List V → Hp → VK → Prop} {f : List MV → MH → Res MV} {m : MM (List MV)} (ho : CallM K c r f) {σ : St} {H : Hp} {Q : VK} (q : tM K c (bltM f m) σ H Q) : tCB r (tMA K c m) σ H Q := by
  obtain ⟨W, h, s, e, S, rs, p⟩ := q
  subst e
  exact ⟨W, h, s, rfl, S, rs, p.bnd fun W1 h1 xs x1 S1 p1 vs r1 => ho W1 h1 xs vs Q S1 r1 p1⟩
theorem tCL_of {r : List V → Hp → VK → Prop} {f : List MV → MH → Res (List MV)} {m : MM (List MV)} (ho : CallL K c r f) {σ : St} {H : Hp} {Q : VK} (q : tML K c (bltL f m) σ H Q) : tCB r (tMA K c m) σ H Q := by
  obtain ⟨W, h, s, e, S, rs, p⟩ := q
  subst e
  exact ⟨W, h, s, rfl, S, rs, p.bnd fun W1 h1 xs x1 S1 p1 vs r1 => ho W1 h1 xs vs Q S1 r1 p1⟩
theorem em_blt {id : String} {x : Str} {p : Pos} {r : List V → Hp → VK → Prop} {f : List MV → MH → Res MV} {m : MM (List MV)} (hc : CallR X (.builtin id) r) (ho : CallM X.K c r f) (hg : Gl X x) (hm : X.mg x = none) (hv : bootBuiltins x = some (.builtin id)) (ha : AM X c (e :: es) m) (hn : x ≠ "__name__" := by decide) (hdb : (x == ("__debug__" : Str)) = false := by decide)
    (he : starEach (e :: es) X.env = (false, eval e X.env) :: starEach es X.env := by rfl) (hpl : (backTo pos (starEach es X.env)).any (·.1) = false := by rfl) : EM X c (.Call (.Name x p) (e :: es) [] pos) (bltM f m) := pe_wk (pe_callB hc hg hm hv ha hn hdb he hpl) fun σ H Q q => tCB_of ho q
theorem em_bty {T : String} {x : Str} {p : Pos} {r : List V → Hp → VK → Prop} {f : List MV → MH → Res MV} {m : MM (List MV)} (hc : CallR X (.type T) r) (ho : CallM X.K c r f) (hg : Gl X x) (hm : X.mg x = none) (hv : bootBuiltins x = some (.type T)) (ha : AM X c (e :: es) m) (hn : x ≠ "__name__" := by decide) (hdb : (x == ("__debug__" : Str)) = false := by decide)
    (he : starEach (e :: es) X.env = (false, eval e X.env) :: starEach es X.env := by rfl) (hpl : (backTo pos (starEach es X.env)).any (·.1) = false := by rfl) : EM X c (.Call (.Name x p) (e :: es) [] pos) (bltM f m) := pe_wk (pe_callTy hc hg hm hv ha hn hdb he hpl) fun σ H Q q => tCB_of ho q
theorem lm_blt {id : String} {x : Str} {p : Pos} {r : List V → Hp → VK → Prop} {f : List MV → MH → Res (List MV)} {m : MM (List MV)} (hc : CallR X (.builtin id) r) (ho : CallL X.K c r f) (hg : Gl X x) (hm : X.mg x = none) (hv : bootBuiltins x = some (.builtin id)) (ha : AM X c (e :: es) m) (hn : x ≠ "__name__" := by decide) (hdb : (x == ("__debug__" : Str)) = false := by decide)
    (he : starEach (e :: es) X.env = (false, eval e X.env) :: starEach es X.env := by rfl) (hpl : (backTo pos (starEach es X.env)).any (·.1) = false := by rfl) : LM X c (.Call (.Name x p) (e :: es) [] pos) (bltL f m) := pe_wk (pe_callB hc hg hm hv ha hn hdb he hpl) fun σ H Q q => tCL_of ho q
theorem lm_bty {T : String} {x : Str} {p : Pos} {r : List V → Hp → VK → Prop} {f : List MV → MH → Res (List MV)} {m : MM (List MV)} (hc : CallR X (.type T) r) (ho : CallL X.K c r f) (hg : Gl X x) (hm : X.mg x = none) (hv : bootBuiltins x = some (.type T)) (ha : AM X c (e :: es) m) (hn : x ≠ "__name__" := by decide) (hdb : (x == ("__debug__" : Str)) = false := by decide)
    (he : starEach (e :: es) X.env = (false, eval e X.env) :: starEach es X.env := by rfl) (hpl : (backTo pos (starEach es X.env)).any (·.1) = false := by rfl) : LM X c (.Call (.Name x p) (e :: es) [] pos) (bltL f m) := pe_wk (pe_callTy hc hg hm hv ha hn hdb he hpl) fun σ H Q q => tCL_of ho q
end
@[simp ↓] def lenF (xs : List MV) (h : MH) : Res MV := match xs with
  | [.str z] => if z.length ≤ lim then ok (.int z.length) h else none
  | [x] => match seqOf h x with
    | some ys => ok (.int ys.length) h
    | none => none
  | _ => none
@[simp ↓] def absF (xs : List MV) (h : MH) : Res MV := match xs with
  | [.int i] => ok (.int (if i < 0 then -i else i)) h
  | _ => none
@[simp ↓] def intF (xs : List MV) (h : MH) : Res MV := match xs with
  | [.int i] => ok (.int i) h
  | [.bl k] => ok (.int (if k then 1 else 0)) h
  | _ => none
@[simp ↓] def min2F (xs : List MV) (h : MH) : Res MV := match xs with
  | [.int i, .int j] => ok (.int (if j < i then j else i)) h
  | _ => none
@[simp ↓] def max2F (xs : List MV) (h : MH) : Res MV := match xs with
  | [.int i, .int j] => ok (.int (if j > i then j else i)) h
  | _ => none
@[simp ↓] def tupF (xs : List MV) (h : MH) : Res MV := match xs with
  | [.ktp _] => none
  | [x] => match seqOf h x with
    | some ys => ok (.tup ys) h
    | none => none
  | _ => none
@[simp ↓] def lstF (xs : List MV) (h : MH) : Res (List MV) := match xs with
  | [x] => seqOf h x |>.map fun ys => .ok ys h
  | _ => none
def intOf : MV → Option Int
  | .int i => some i
  | _ => none
def intsOf : List MV → Option (List Int)
  | [] => some []
  | x :: xs => match intOf x, intsOf xs with
    | some i, some is => some (i :: is)
    | _, _ => none
def sumF (xs : List MV) (h : MH) : Res MV := match xs with
  | [x] => match (lstOf h x).bind intsOf with
    | some ns => ok (.int ns.sum) h
    | none => none
  | _ => none
section
variable {X : Cx} {c : XC} {K : PySem.W.Frag} {W : Wd}
theorem ints_V : ∀ {xs : List MV} {vs : List V} {ns : List Int}, RVs K W xs vs → intsOf xs = some ns → vs = ns.map V.int ∧ xs = ns.map MV.int
  | [], _, _, .nil, e => by
    cases e
    exact ⟨rfl, rfl⟩
  | x :: xs, _, ns, .cons r t, e => by
    unfold intsOf at e
    cases x <;> first | (cases e; done) | skip
    rename_i i
    cases h : intsOf xs with
    | none =>
      simp only [intOf, h] at e
      cases e
    | some is =>
      simp only [intOf, h] at e
      cases e
      obtain ⟨e1, e2⟩ := ints_V t h
      subst e1 e2
      rw [rv_int r]
      exact ⟨rfl, rfl⟩
theorem lst_bind {β : Type} {h : MH} {x : MV} {v : V} {f : List MV → Option β} {b : β} (S : Sim K W h) (r : RV K W x v) (e : (lstOf h x).bind f = some b) : ∃ p vs xs, v = .ref p ∧ SqL K W.H p vs ∧ RVs K W xs vs ∧ f xs = some b := by
  cases hl : lstOf h x with
  | none =>
    rw [hl] at e
    cases e
  | some xs =>
    rw [hl] at e
    obtain ⟨p, vs, e1, e2, t⟩ := lst_sq S r hl
    exact ⟨p, vs, xs, e1, e2, t, e⟩
theorem cm_len : CallM K c (fun xs H Q => ∃ x n, xs = [x] ∧ LenV K x H n ∧ Q (.int n) H) lenF := fun W h xs vs Q S r p => by
  unfold lenF at p
  split at p
  · rename_i z
    obtain ⟨v, rfl, r1⟩ := rvs_one r
    by_cases q : z.length ≤ lim
    · rw [if_pos q] at p
      exact ⟨v, z.length, rfl, by rw [rv_str r1]; exact ⟨lim_line q, rfl⟩, Pst.now p S _ (.int _)⟩
    · rw [if_neg q] at p
      exact p.elim
  · rename_i x _
    obtain ⟨v, rfl, r1⟩ := rvs_one r
    cases e : seqOf h x with
    | none =>
      rw [e] at p
      exact p.elim
    | some ys =>
      rw [e] at p
      obtain ⟨a, ws, rfl, hq, t⟩ := seq_sq S r1 e
      refine ⟨_, ys.length, rfl, ?_, Pst.now p S _ (.int _)⟩
      rcases hq with hq | hq
      · exact .inl ⟨ws, hq, t.length⟩
      · exact .inr ⟨ws, hq, t.length⟩
  · exact p.elim
theorem cm_abs : CallM K c (fun xs H Q => ∃ i, xs = [.int i] ∧ Q (.int (if i < 0 then -i else i)) H) absF := fun W h xs vs Q S r p => by
  unfold absF at p
  split at p
  · rename_i i
    obtain ⟨v, rfl, r1⟩ := rvs_one r
    exact ⟨i, by rw [rv_int r1], Pst.now p S _ (.int _)⟩
  · exact p.elim
theorem cm_int : CallM K c (fun xs H Q => (∃ i, xs = [.int i] ∧ Q (.int i) H) ∨ ∃ k, xs = [.bl k] ∧ Q (.int (if k then 1 else 0)) H) intF := fun W h xs vs Q S r p => by
  unfold intF at p
  split at p
  · rename_i i
    obtain ⟨v, rfl, r1⟩ := rvs_one r
    exact .inl ⟨i, by rw [rv_int r1], Pst.now p S _ (.int _)⟩
  · rename_i i
    obtain ⟨v, rfl, r1⟩ := rvs_one r
    exact .inr ⟨i, by rw [rv_bl r1], Pst.now p S _ (.int _)⟩
  · exact p.elim
theorem cm_tup : CallM K c (fun xs H Q => ∃ p ys, xs = [.ref p] ∧ ((SqL K H p ys ∧ ∀ l, H l = none → Q (.ref l) (upd H l (.tup ys))) ∨ (SqT K H p ys ∧ Q (.ref p) H))) tupF := fun W h xs vs Q S r p => by
  unfold tupF at p
  split at p
  · exact p.elim
  · rename_i x hk
    obtain ⟨v, rfl, r1⟩ := rvs_one r
    cases e : seqOf h x with
    | none =>
      rw [e] at p
      exact p.elim
    | some ys =>
      rw [e] at p
      cases x with
      | tup zs =>
        cases e
        obtain ⟨a, ws, rfl, hq, t⟩ := tup_sq r1
        exact ⟨a, ws, rfl, .inr ⟨hq, Pst.now p S _ r1⟩⟩
      | ktp zs => exact absurd rfl (hk zs)
      | _ =>
        obtain ⟨a, ws, rfl, hq, t⟩ := lst_sq S r1 e
        exact ⟨a, ws, rfl, .inl ⟨hq, fun l hl => p (W.put l (.tup ws)) (Ext.put S hl) (S.put hl) (.ref l) (.tup (S.fresh hl) upd_same (t.mono (Ext.put S hl)))⟩⟩
  · exact p.elim
theorem cl_lst : CallL K c (fun xs H Q => ∃ p ys, xs = [.ref p] ∧ (SqL K H p ys ∨ SqT K H p ys) ∧ ∀ l, H l = none → Q (.ref l) (upd H l (.lst ys))) lstF := fun W h xs vs Q S r p => by
  unfold lstF at p
  split at p
  · rename_i x
    obtain ⟨v, rfl, r1⟩ := rvs_one r
    cases e : seqOf h x with
    | none =>
      rw [e] at p
      exact p.elim
    | some ys =>
      rw [e] at p
      obtain ⟨a, ws, rfl, hq, t⟩ := seq_sq S r1 e
      exact ⟨a, ws, rfl, hq, fun l hl => p W (Ext.refl W) S ws l t hl⟩
  · exact p.elim
theorem cm_sum : CallM K c (rSum K) sumF := fun W h xs vs Q S r p => by
  unfold sumF at p
  split at p
  · rename_i x
    obtain ⟨v, rfl, r1⟩ := rvs_one r
    cases e : (lstOf h x).bind intsOf with
    | none =>
      rw [e] at p
      exact p.elim
    | some ns =>
      rw [e] at p
      obtain ⟨a, ws, ys, rfl, hq, t, e2⟩ := lst_bind S r1 e
      exact ⟨a, ns, rfl, by rw [← (ints_V t e2).1]; exact hq, Pst.now p S _ (.int _)⟩
  · exact p.elim
end
inductive Ty where
  | non | bool | int | str | tuple | list | dict
  deriving DecidableEq
def Ty.nm : Ty → String
  | .non => "NoneType"
  | .bool => "bool"
  | .int => "int"
  | .str => "str"
  | .tuple => "tuple"
  | .list => "list"
  | .dict => "dict"
@[simp ↓] def tyOf (h : MH) : MV → Option Ty
  | .non => some .non
  | .bl _ => some .bool
  | .int _ => some .int
  | .str _ => some .str
  | .tup _ => some .tuple
  | .ktp _ => some .tuple
  | .fls _ => some .list
  | .frz _ => some .list
  | .ref l => match h[l]? with
    | some (.lst _) => some .list
    | some (.dK _) => some .dict
    | _ => none
  | .exc .. => none
  | .fdt .. => none
def Ty.le (a b : Ty) : Bool := decide (a = b) || (decide (a = .bool) && decide (b = .int))
@[simp ↓] def isiM (ts : List Ty) (m : ME) : ME := fun s h => (m s h).bnd fun x h1 => match tyOf h1 x with
  | some t => ok (.bl (ts.any fun u => t.le u)) h1
  | none => none
section
variable {X : Cx} {c : XC} {K : PySem.W.Frag} {W : Wd} {e : Expr} {pos p p2 : Pos}
theorem kit_le (a b : Ty) (hb : b ≠ .non) : PySem.W.kitOne K (.type a.nm) (.type b.nm) = some (a.le b) := by
  refine kit_ty ?_
  cases a <;> cases b <;> first | exact absurd rfl hb | decide +kernel
theorem ty_V {h : MH} {x : MV} {v : V} {t : Ty} (S : Sim K W h) (r : RV K W x v) (e : tyOf h x = some t) : TyX K W.H v (.type t.nm) := by
  cases r with
  | non =>
    cases e
    exact .base .non
  | bl b =>
    cases e
    exact .base (.bl b)
  | int i =>
    cases e
    exact .base (.int i)
  | str z =>
    cases e
    exact .base (.str z)
  | tup s q t =>
    cases e
    exact .base (.tup q)
  | tupK q t =>
    cases e
    rcases q fun _ => none with (q | ⟨o, q⟩) | ⟨o, its, n, q, hc, _⟩
    · cases q
    · cases q
    · exact .kTuple q hc
  | exc0 => cases e
  | excD => cases e
  | fdt => cases e
  | fls s q t =>
    cases e
    exact .base (.lst q)
  | frz s q t =>
    cases e
    rcases q with q | ⟨o, q⟩
    · exact .base (.lst q)
    · exact .base (.frz q)
  | frzK q t =>
    cases e
    rcases q fun _ => none with (q | ⟨o, q⟩) | ⟨o, its, n, q, hc, _⟩
    · cases q
    · cases q
    · exact .kList q hc
  | @ref l a lt q =>
    have e' : (match h[l]? with | some (.lst _) => some Ty.list | some (.dK _) => some Ty.dict | _ => none) = some t := e
    cases hl : h[l]? with
    | none =>
      rw [hl] at e'
      cases e'
    | some o =>
      rw [hl] at e'
      cases o with
      | dead => cases e'
      | lst xs =>
        cases e'
        obtain ⟨b, vs, e1, e2, e3, _⟩ := S.lstAt hl (.ref lt q)
        cases e1
        exact .base (.lst e3)
      | dK kvs =>
        cases e'
        obtain ⟨b, e1, e2, kws, e3, _⟩ := S.at hl (by intro z; cases z) (.ref lt q)
        cases e1
        exact .base (.dK e3)
      | dT kvs => cases e'
      | ins cn kvs => cases e'
theorem em_isi {m : ME} {T : Expr} (u : Ty) (hu : u ≠ .non) (hg : Gl X "isinstance") (hm : X.mg "isinstance" = none) (hT : PE X T (tC (.ty u.nm))) (he : EM X c e m) (hs : starEach [e, T] X.env = (false, eval e X.env) :: starEach [T] X.env := by rfl) (hs2 : starEach [T] X.env = (false, eval T X.env) :: starEach [] X.env := by rfl)
    (hpl : (backTo pos (starEach [T] X.env)).any (·.1) = false := by rfl) : EM X c (.Call (.Name "isinstance" p) [e, T] [] pos) (isiM [u] m) :=
  pe_wk (pe_callB call_isi hg hm PyProof.Rows.boot_isinstance (pa_cons he (pa_cons hT pa_nil hs2) hs) (by decide) (by decide) hs hpl) fun σ H Q ⟨W, h, s, e, S, rs, p⟩ => by
    subst e
    refine ⟨W, h, s, rfl, S, rs, p.bnd fun W1 h1 x x1 S1 p1 v r1 => ?_⟩
    cases et : tyOf h1 x with
    | none =>
      rw [et] at p1
      exact p1.elim
    | some t =>
      rw [et] at p1
      refine ⟨v, .ty u.nm, .type t.nm, .type u.nm, t.le u, rfl, .ty _, ty_V S1 r1 et, kit_le t u hu, ?_⟩
      have e2 : ([u].any fun u => t.le u) = t.le u := by
        rw [List.any_cons, List.any_nil, Bool.or_false]
      rw [← e2]
      exact Pst.now p1 S1 _ (.bl _)
end
@[simp ↓] def isL (h : MH) (x : MV) : Bool := match x with
  | .ref l => match h[l]? with
    | some (.lst _) => true
    | _ => false
  | _ => false
@[simp ↓] def mthM (f : MV → List MV → MH → Res MV) (o : ME) (a : MM (List MV)) : ME := fun s h => (o s h).bnd fun x h1 => if isL h1 x = true then (a s h1).bnd fun ys h2 => f x ys h2 else none
@[simp ↓] def appF (x : MV) (ys : List MV) (h : MH) : Res MV := match x, ys with
  | .ref l, [y] => match h[l]? with
    | some (.lst xs) => if xs.length < lim then ok .non (h.set l (.lst (xs ++ [y]))) else none
    | _ => none
  | _, _ => none
@[simp ↓] def popF (x : MV) (ys : List MV) (h : MH) : Res MV := match x, ys with
  | .ref l, [] => match h[l]? with
    | some (.lst xs) => match xs[xs.length - 1]? with
      | some y => ok y (h.set l (.lst xs.dropLast))
      | none => none
    | _ => none
  | _, _ => none
@[simp ↓] def popAtF (x : MV) (ys : List MV) (h : MH) : Res MV := match x, ys with
  | .ref l, [.int i] => match h[l]? with
    | some (.lst xs) => match ixN xs.length i with
      | some k => match xs[k]? with
        | some y => if xs.length ≤ lim then ok y (h.set l (.lst (xs.eraseIdx k))) else none
        | none => none
      | none => none
    | _ => none
  | _, _ => none
@[simp ↓] def extF (x : MV) (ys : List MV) (h : MH) : Res MV := match x, ys with
  | .ref l, [.ref k] => match h[l]?, h[k]? with
    | some (.lst xs), some (.lst zs) => if xs.length + zs.length ≤ lim then ok .non (h.set l (.lst (xs ++ zs))) else none
    | _, _ => none
  | .ref l, [.fls zs] => match h[l]? with
    | some (.lst xs) => if xs.length + zs.length ≤ lim then ok .non (h.set l (.lst (xs ++ zs))) else none
    | _ => none
  | _, _ => none
@[simp ↓] def revF (x : MV) (ys : List MV) (h : MH) : Res MV := match x, ys with
  | .ref l, [] => match h[l]? with
    | some (.lst xs) => ok .non (h.set l (.lst xs.reverse))
    | _ => none
  | _, _ => none
def MthM (K : PySem.W.Frag) (c : XC) (r : V → List V → Hp → VK → Prop) (f : MV → List MV → MH → Res MV) : Prop :=
  ∀ (W : Wd) (h : MH) (x : MV) (xs : List MV) (v : V) (vs : List V) (Q : VK), Sim K W h → RV K W x v → RVs K W xs vs → Pst K c (CV K Q) W (f x xs h) → r v vs W.H Q
section
variable {X : Cx} {c : XC} {K : PySem.W.Frag} {W : Wd} {o e : Expr} {es : List Expr}
theorem isL_ty {h : MH} {x : MV} {v : V} (S : Sim K W h) (r : RV K W x v) (e : isL h x = true) : tyV K "list" v W.H := by
  unfold isL at e
  cases x <;> first | (cases e; done) | skip
  rename_i l
  dsimp only at e
  cases hl : h[l]? with
  | none =>
    rw [hl] at e
    cases e
  | some o =>
    rw [hl] at e
    cases o with
    | lst xs =>
      obtain ⟨a, vs, rfl, e2, e3, t⟩ := S.lstAt hl r
      exact .inl ⟨rfl, vs, .inl (.inl e3)⟩
    | dead => cases e
    | dK kvs => cases e
    | dT kvs => cases e
    | ins cn kvs => cases e
theorem em_mth {name : Str} {apos cpos : Pos} {r : V → List V → Hp → VK → Prop} {f : MV → List MV → MH → Res MV} {mo : ME} {ma : MM (List MV)} (hf : MthM X.K c r f)
    (h : PE X (.Call (.Attribute o name apos) (e :: es) [] cpos) (tBM X.K "list" r (tM X.K c mo) (tMA X.K c ma))) : EM X c (.Call (.Attribute o name apos) (e :: es) [] cpos) (mthM f mo ma) := pe_wk h fun σ H Q ⟨W, h, s, e, S, rs, p⟩ => by
  subst e
  refine ⟨W, h, s, rfl, S, rs, p.bnd fun W1 h1 x x1 S1 p1 v r1 => ?_⟩
  by_cases q : isL h1 x = true
  · rw [if_pos q] at p1
    exact ⟨isL_ty S1 r1 q, W1, h1, s, rfl, S1, rs.mono x1, p1.bnd fun W2 h2 ys x2 S2 p2 vs r2 => hf W2 h2 x ys v vs Q S2 (r1.mono x2) r2 p2⟩
  · rw [if_neg q] at p1
    exact p1.elim
theorem mm_app : MthM K c rAppend appF := fun W h x ys v vs Q S r rs p => by
  unfold appF at p
  split at p
  · rename_i l y
    obtain ⟨u, rfl, ry⟩ := rvs_one rs
    cases hl : h[l]? with
    | none =>
      rw [hl] at p
      exact p.elim
    | some o =>
      rw [hl] at p
      cases o with
      | dead => exact p.elim
      | dK kvs => exact p.elim
      | dT kvs => exact p.elim
      | ins cn kvs => exact p.elim
      | lst xs =>
        dsimp only at p
        by_cases q : xs.length < lim
        · rw [if_pos q] at p
          obtain ⟨a, ws, rfl, e2, e3, t⟩ := S.lstAt hl r
          refine ⟨a, ws, u, rfl, rfl, e3, Nat.lt_of_lt_of_le (by rw [← t.length]; exact q) (lim_line (Nat.le_refl _)), ?_⟩
          exact p (W.wr a (.lst (ws ++ [u]))) (Ext.wr S e2) (S.wr e2 ⟨_, upd_same, ((t.append (.one ry)).mono (Ext.wr S e2))⟩) _ .non
        · rw [if_neg q] at p
          exact p.elim
  · exact p.elim
theorem RVs.dropLast {xs : List MV} {vs : List V} (t : RVs K W xs vs) : RVs K W xs.dropLast vs.dropLast := by
  rw [List.dropLast_eq_take, List.dropLast_eq_take, ← t.length]
  exact t.take _
theorem mm_popAt : MthM K c rPopAt popAtF := fun W h x ys v vs Q S r rs p => by
  unfold popAtF at p
  split at p
  · rename_i l i
    obtain ⟨w, rfl, ri⟩ := rvs_one rs
    cases hl : h[l]? with
    | none =>
      rw [hl] at p
      exact p.elim
    | some o =>
      rw [hl] at p
      cases o with
      | dead => exact p.elim
      | dK kvs => exact p.elim
      | dT kvs => exact p.elim
      | ins cn kvs => exact p.elim
      | lst xs =>
        dsimp only at p
        cases hk : ixN xs.length i with
        | none =>
          rw [hk] at p
          exact p.elim
        | some k =>
          rw [hk] at p
          dsimp only at p
          cases hy : xs[k]? with
          | none =>
            rw [hy] at p
            exact p.elim
          | some y =>
            rw [hy] at p
            dsimp only at p
            by_cases q : xs.length ≤ lim
            · rw [if_pos q] at p
              obtain ⟨a, ws, rfl, e2, e3, t⟩ := S.lstAt hl r
              obtain ⟨u, hu, ru⟩ := t.get hy
              obtain ⟨h1, h2, h3, h4⟩ := ixN_seq hk
              have hlim : lim = 1000000 := rfl
              refine ⟨a, ws, i, k, u, rfl, by rw [rv_int ri], e3, by omega, by omega, by rw [← t.length]; exact h1, hu, ?_⟩
              exact p (W.wr a (.lst (ws.eraseIdx k))) (Ext.wr S e2) (S.wr e2 ⟨_, upd_same, (t.eraseIdx k).mono (Ext.wr S e2)⟩) u (ru.mono (Ext.wr S e2))
            · rw [if_neg q] at p
              exact p.elim
  · exact p.elim
end
end Mi
set_option maxHeartbeats 2000000
namespace Mi
open PySem L2
def cutM (xs : List MV) (lo hi : Option Int) : List MV := (xs.drop (HT.sIx xs.length 0 lo)).take (HT.sIx xs.length xs.length hi - HT.sIx xs.length 0 lo)
@[simp ↓] def noO : MM (Option Int) := fun _ h => ok none h
@[simp ↓] def someO (m : ME) : MM (Option Int) := fun s h => (m s h).bnd fun x h1 => match x with
  | .int i => ok (some i) h1
  | _ => none
@[simp ↓] def sliL (m : ME) (lo hi : MM (Option Int)) : MM (List MV) := fun s h => (m s h).bnd fun x h1 => (lo s h1).bnd fun a h2 => (hi s h2).bnd fun b h3 => match lstOf h3 x with
  | some xs => ok (cutM xs a b) h3
  | none => none
@[simp ↓] def sliT (m : ME) (lo hi : MM (Option Int)) : ME := fun s h => (m s h).bnd fun x h1 => (lo s h1).bnd fun a h2 => (hi s h2).bnd fun b h3 => match x with
  | .tup xs => ok (.tup (cutM xs a b)) h3
  | x => match lstOf h3 x with
    | some xs => ok (.fls (cutM xs a b)) h3
    | none => none
@[simp ↓] def rvsL (m : ME) : MM (List MV) := fun s h => (m s h).bnd fun x h1 => match lstOf h1 x with
  | some xs => ok xs.reverse h1
  | none => none
section
variable {X : Cx} {c : XC} {e : Expr} {pos p2 : Pos} {K : PySem.W.Frag} {W : Wd}
theorem RVs.cut {xs : List MV} {vs : List V} (t : RVs K W xs vs) (lo hi : Option Int) : RVs K W (cutM xs lo hi) (cutV vs lo hi) := by
  unfold cutM cutV
  rw [← t.length]
  exact (t.drop _).take _
theorem om_none : PO X none (tMO X.K c noO) := po_wk po_none fun σ H Q ⟨W, h, s, e, S, rs, p⟩ => by
  subst e
  exact p W (Ext.refl W) S
theorem om_some {m : ME} (h : EM X c e m) : PO X (some e) (tMO X.K c (someO m)) := po_wk (po_some h) fun σ H Q ⟨W, h, s, e, S, rs, p⟩ => by
  subst e
  refine ⟨W, h, s, rfl, S, rs, p.bnd fun W1 h1 x x1 S1 p1 v r1 => ?_⟩
  cases x <;> first | exact p1.elim | skip
  rename_i i
  exact ⟨i, rv_int r1, Pst.now p1 S1⟩
end
@[simp ↓] def wlstOf (h : MH) : MV → Option (List MV)
  | .fls xs => some xs
  | .ref l => match h[l]? with
    | some (.lst xs) => some xs
    | _ => none
  | _ => none
@[simp ↓] def catL (a b : ME) : MM (List MV) := fun s h => (a s h).bnd fun x h1 => (b s h1).bnd fun y h2 => match wlstOf h2 x, wlstOf h2 y with
  | some xs, some ys => if xs.length + ys.length ≤ lim then ok (xs ++ ys) h2 else none
  | _, _ => none
@[simp ↓] def repL (a b : ME) : MM (List MV) := fun s h => (a s h).bnd fun x h1 => (b s h1).bnd fun y h2 => match wlstOf h2 x, y with
  | some xs, .int k => if (k ≤ 1000000 ∧ -1000000 ≤ k) ∧ xs.length * k.toNat ≤ lim then ok (List.replicate k.toNat xs).flatten h2 else none
  | _, _ => none
@[simp ↓] def rgL (a : ME) : MM (List MV) := fun s h => (a s h).bnd fun x h1 => match x with
  | .int n => if n ≤ 1000000 ∧ -1000000 ≤ n then ok (runOf 0 n.toNat) h1 else none
  | _ => none
@[simp ↓] def rgT (a : ME) : ME := fun s h => (a s h).bnd fun x h1 => match x with
  | .int n => if n ≤ 1000000 ∧ -1000000 ≤ n then ok (.tup (runOf 0 n.toNat)) h1 else none
  | _ => none
section
variable {X : Cx} {c : XC} {a b : Expr} {pos p p2 : Pos} {K : PySem.W.Frag} {W : Wd}
theorem wlst_sq {h : MH} {x : MV} {v : V} {xs : List MV} (S : Sim K W h) (r : RV K W x v) (e : wlstOf h x = some xs) : ∃ p vs, v = .ref p ∧ W.H p = some (.lst vs) ∧ RVs K W xs vs := by
  cases x with
  | fls ys =>
    cases e
    cases r with
    | fls s q t => exact ⟨_, _, rfl, q, t⟩
  | ref l =>
    have e' : (match h[l]? with | some (.lst xs) => some xs | _ => none) = some xs := e
    cases hl : h[l]? with
    | none =>
      rw [hl] at e'
      cases e'
    | some o =>
      rw [hl] at e'
      cases o with
      | lst ys =>
        cases e'
        obtain ⟨a, vs, e1, e2, e3, r3⟩ := S.lstAt hl r
        exact ⟨a, vs, e1, e3, r3⟩
      | dead => cases e'
      | dK kvs => cases e'
      | dT kvs => cases e'
      | ins cn kvs => cases e'
  | _ => cases e
theorem lm_cat {ma mb : ME} (ha : EM X c a ma) (hb : EM X c b mb) : LM X c (.BinOp a .Add b pos) (catL ma mb) := pe_wk (pe_op op_cat ha hb) fun σ H Q ⟨W, h, s, e, S, rs, p⟩ => by
  subst e
  refine ⟨W, h, s, rfl, S, rs, p.bnd fun W1 h1 x x1 S1 p1 u r1 => ?_⟩
  refine ⟨W1, h1, s, rfl, S1, rs.mono x1, p1.bnd fun W2 h2 y x2 S2 p2 v r2 => ?_⟩
  cases hx : wlstOf h2 x with
  | none =>
    simp only [hx] at p2
    exact p2.elim
  | some xs =>
    cases hy : wlstOf h2 y with
    | none =>
      simp only [hx, hy] at p2
      exact p2.elim
    | some ys =>
      simp only [hx, hy] at p2
      by_cases q : xs.length + ys.length ≤ lim
      · rw [if_pos q] at p2
        obtain ⟨d1, vs, e1, e2, t1⟩ := wlst_sq S2 (r1.mono x2) hx
        obtain ⟨d2, ws, e3, e4, t2⟩ := wlst_sq S2 r2 hy
        exact ⟨d1, d2, vs, ws, e1, e3, e2, e4, by rw [← t1.length, ← t2.length]; exact lim_line q, fun d hd => p2 W2 (Ext.refl _) S2 _ d (t1.append t2) hd⟩
      · rw [if_neg q] at p2
        exact p2.elim
theorem RVs.rep {xs : List MV} {vs : List V} (t : RVs K W xs vs) : ∀ k : Nat, RVs K W (List.replicate k xs).flatten (List.replicate k vs).flatten
  | 0 => .nil
  | k + 1 => by
    rw [List.replicate_succ, List.replicate_succ, List.flatten_cons, List.flatten_cons]
    exact t.append (RVs.rep t k)
theorem lm_rep {ma mb : ME} (ha : EM X c a ma) (hb : EM X c b mb) : LM X c (.BinOp a .Mult b pos) (repL ma mb) := pe_wk (pe_op op_rep ha hb) fun σ H Q ⟨W, h, s, e, S, rs, p⟩ => by
  subst e
  refine ⟨W, h, s, rfl, S, rs, p.bnd fun W1 h1 x x1 S1 p1 u r1 => ?_⟩
  refine ⟨W1, h1, s, rfl, S1, rs.mono x1, p1.bnd fun W2 h2 y x2 S2 p2 v r2 => ?_⟩
  cases hx : wlstOf h2 x with
  | none =>
    simp only [hx] at p2
    exact p2.elim
  | some xs =>
    cases y <;> first | (simp only [hx] at p2; exact p2.elim) | skip
    rename_i k
    simp only [hx] at p2
    by_cases q : (k ≤ 1000000 ∧ -1000000 ≤ k) ∧ xs.length * k.toNat ≤ lim
    · rw [if_pos q] at p2
      obtain ⟨d1, vs, e1, e2, t1⟩ := wlst_sq S2 (r1.mono x2) hx
      exact ⟨d1, k, vs, e1, rv_int r2, e2, by omega, by omega, by rw [← t1.length]; exact lim_line q.2, fun d hd => p2 W2 (Ext.refl _) S2 _ d (t1.rep _) hd⟩
    · rw [if_neg q] at p2
      exact p2.elim
theorem runOf_V (a : Int) (n : Nat) : RVs K W (runOf a n) ((List.range n).map fun (i : Nat) => V.int (a + (i : Int))) := by
  unfold runOf
  induction List.range n with
  | nil => exact .nil
  | cons i l ih => exact .cons (.int _) ih
theorem rgV_of (n : Int) : rgV 0 n = (List.range n.toNat).map fun (i : Nat) => V.int (0 + (i : Int)) := by
  unfold rgV
  rw [Int.sub_zero]
theorem lm_rg {ma : ME} {p1 : Pos} (hc : X.calm = true) (hg : Gl X "list") (hm : X.mg "list" = none) (hg2 : Gl X "range") (hm2 : X.mg "range" = none) (ha : EM X c a ma) (na : starEach [a] X.env = (false, eval a X.env) :: starEach [] X.env := by rfl)
    (nb : starEach [.Call (.Name "range" p1) [a] [] p2] X.env = (false, eval (.Call (.Name "range" p1) [a] [] p2) X.env) :: starEach [] X.env := by rfl) : LM X c (.Call (.Name "list" p) [.Call (.Name "range" p1) [a] [] p2] [] pos) (rgL ma) :=
  pe_wk (pe_listRg hc hg hm (prg_1 hg2 hm2 ha na) nb) fun σ H Q ⟨W, h, s, e, S, rs, p⟩ => by
    subst e
    refine ⟨W, h, s, rfl, S, rs, p.bnd fun W1 h1 x x1 S1 p1 u r1 => ?_⟩
    cases x <;> first | exact p1.elim | skip
    rename_i n
    have p' : Pst X.K c (CL X.K Q) W1 (if n ≤ 1000000 ∧ -1000000 ≤ n then ok (runOf 0 n.toNat) h1 else none) := p1
    by_cases q : n ≤ 1000000 ∧ -1000000 ≤ n
    · rw [if_pos q] at p'
      exact ⟨n, rv_int r1, ⟨by omega, by omega, by omega, by omega, by omega⟩, fun d hd => by rw [rgV_of]; exact p' W1 (Ext.refl _) S1 _ d (runOf_V 0 _) hd⟩
    · rw [if_neg q] at p'
      exact p'.elim
end
def insB {α : Type} (le : α → α → Bool) (x : α) : List α → List α
  | [] => [x]
  | y :: ys => if le x y = true then x :: y :: ys else y :: insB le x ys
def srtB {α : Type} (le : α → α → Bool) : List α → List α
  | [] => []
  | x :: xs => insB le x (srtB le xs)
section
variable {α : Type} {le : α → α → Bool}
theorem insB_perm (x : α) : ∀ l : List α, (insB le x l).Perm (x :: l)
  | [] => List.Perm.refl _
  | y :: ys => by
    unfold insB
    by_cases h : le x y = true
    · rw [if_pos h]
    · rw [if_neg h]
      exact ((insB_perm x ys).cons y).trans (List.Perm.swap x y ys)
theorem srtB_perm : ∀ l : List α, (srtB le l).Perm l
  | [] => List.Perm.refl _
  | x :: xs => (insB_perm x _).trans ((srtB_perm xs).cons x)
theorem insB_srt (tot : ∀ a b, le a b = true ∨ le b a = true) (tr : ∀ a b c, le a b = true → le b c = true → le a c = true) (x : α) : ∀ {l : List α}, l.Pairwise (fun a b => le a b = true) → (insB le x l).Pairwise (fun a b => le a b = true)
  | [], _ => List.pairwise_singleton _ x
  | y :: ys, h => by
    obtain ⟨h1, h2⟩ := List.pairwise_cons.mp h
    unfold insB
    by_cases q : le x y = true
    · rw [if_pos q]
      exact List.pairwise_cons.mpr ⟨fun z hz => (List.mem_cons.mp hz).elim (fun e => by rw [e]; exact q) fun hz => tr x y z q (h1 z hz), h⟩
    · rw [if_neg q]
      refine List.pairwise_cons.mpr ⟨fun z hz => ?_, insB_srt tot tr x h2⟩
      rcases List.mem_cons.mp ((insB_perm x ys).mem_iff.mp hz) with e | hz
      · rw [e]
        exact (tot x y).resolve_left q
      · exact h1 z hz
theorem srtB_srt (tot : ∀ a b, le a b = true ∨ le b a = true) (tr : ∀ a b c, le a b = true → le b c = true → le a c = true) : ∀ l : List α, (srtB le l).Pairwise (fun a b => le a b = true)
  | [] => List.Pairwise.nil
  | x :: xs => insB_srt tot tr x (srtB_srt tot tr xs)
theorem srt_uniq (anti : ∀ a b, le a b = true → le b a = true → a = b) (rf : ∀ a, le a a = true) : ∀ {l m : List α}, l.Pairwise (fun a b => le a b = true) → m.Pairwise (fun a b => le a b = true) → l.Perm m → l = m
  | [], m, _, _, h => (List.Perm.eq_nil h.symm).symm
  | x :: l, [], _, _, h => absurd h.length_eq (by simp)
  | x :: l, y :: m, hl, hm, h => by
    obtain ⟨l1, l2⟩ := List.pairwise_cons.mp hl
    obtain ⟨m1, m2⟩ := List.pairwise_cons.mp hm
    have e : x = y := by
      refine anti x y ?_ ?_
      · rcases List.mem_cons.mp (h.mem_iff.mpr (List.mem_cons_self (a := y) (l := m))) with e | hy
        · rw [e]
          exact rf x
        · exact l1 y hy
      · rcases List.mem_cons.mp (h.mem_iff.mp (List.mem_cons_self (a := x) (l := l))) with e | hx
        · rw [e]
          exact rf y
        · exact m1 x hx
    subst e
    rw [srt_uniq anti rf l2 m2 h.cons_inv]
end
def leI (a b : Int) : Bool := decide (a ≤ b)
def leP (p q : Int × Int) : Bool := decide (p.1 < q.1) || (decide (p.1 = q.1) && decide (p.2 ≤ q.2))
theorem leP_iff {p q : Int × Int} : leP p q = true ↔ p.1 < q.1 ∨ (p.1 = q.1 ∧ p.2 ≤ q.2) := by
  unfold leP
  simp
theorem leP_tot (a b : Int × Int) : leP a b = true ∨ leP b a = true := by
  rw [leP_iff, leP_iff]
  omega
theorem leP_tr (a b c : Int × Int) : leP a b = true → leP b c = true → leP a c = true := by
  rw [leP_iff, leP_iff, leP_iff]
  omega
theorem leP_anti (a b : Int × Int) (h1 : leP a b = true) (h2 : leP b a = true) : a = b := by
  rw [leP_iff] at h1 h2
  exact Prod.ext (by omega) (by omega)
def pairOf : MV → Option (Int × Int)
  | .tup [.int a, .int b] => some (a, b)
  | _ => none
def pairsOf : List MV → Option (List (Int × Int))
  | [] => some []
  | x :: xs => match pairOf x, pairsOf xs with
    | some p, some ps => some (p :: ps)
    | _, _ => none
def mvP (p : Int × Int) : MV := .tup [.int p.1, .int p.2]
def sortPF (xs : List MV) (h : MH) : Res (List MV) := match xs with
  | [x] => match (lstOf h x).bind pairsOf with
    | some ps => ok ((srtB leP ps).map mvP) h
    | none => none
  | _ => none
def sortIF (xs : List MV) (h : MH) : Res (List MV) := match xs with
  | [x] => match (lstOf h x).bind intsOf with
    | some ps => ok ((srtB leI ps).map MV.int) h
    | none => none
  | _ => none
section
variable {X : Cx} {c : XC} {K : PySem.W.Frag} {W : Wd}
theorem cl_sortI : CallL K c (rSortedI K) sortIF := fun W h xs vs Q S r p => by
  unfold sortIF at p
  split at p
  · rename_i x
    obtain ⟨v, rfl, r1⟩ := rvs_one r
    cases e : (lstOf h x).bind intsOf with
    | none =>
      rw [e] at p
      exact p.elim
    | some ns =>
      rw [e] at p
      obtain ⟨a, ws, ys, rfl, hq, t, e2⟩ := lst_bind S r1 e
      refine ⟨a, ns, rfl, by rw [← (ints_V t e2).1]; exact hq, fun ns' d pm so hd => ?_⟩
      have en : ns' = srtB leI ns := by
        refine srt_uniq (le := leI) (fun a b h1 h2 => ?_) (fun a => decide_eq_true (Int.le_refl a)) ?_ ?_ (pm.trans (srtB_perm ns).symm)
        · have := of_decide_eq_true h1
          have := of_decide_eq_true h2
          omega
        · exact so.imp fun h => decide_eq_true h
        · refine srtB_srt (fun a b => ?_) (fun a b d h1 h2 => ?_) ns
          · rcases Int.le_total a b with h | h
            · exact .inl (decide_eq_true h)
            · exact .inr (decide_eq_true h)
          · exact decide_eq_true (Int.le_trans (of_decide_eq_true h1) (of_decide_eq_true h2))
      subst en
      refine p W (Ext.refl W) S _ d ?_ hd
      induction srtB leI ns with
      | nil => exact .nil
      | cons i l ih => exact .cons (.int i) ih
  · exact p.elim
def keyV (H : Hp) (v : V) : Int × Int := match v with
  | .ref t => match H t with
    | some (.tup [.int a, .int b]) => (a, b)
    | _ => (0, 0)
  | _ => (0, 0)
theorem pair_V {x : MV} {v : V} {q : Int × Int} (r : RV K W x v) (e : pairOf x = some q) : x = mvP q ∧ ∃ t, v = .ref t ∧ W.H t = some (.tup [.int q.1, .int q.2]) := by
  unfold pairOf at e
  split at e
  · rename_i a b
    cases e
    cases r with
    | tup s q t =>
      obtain ⟨v1, v2, rfl, r1, r2⟩ := rvs_two t
      rw [rv_int r1, rv_int r2] at q
      exact ⟨rfl, _, rfl, q⟩
  · cases e
theorem pairs_V : ∀ {xs : List MV} {vs : List V} {ps : List (Int × Int)}, RVs K W xs vs → pairsOf xs = some ps → (∀ v ∈ vs, ∃ t, v = V.ref t ∧ W.H t = some (.tup [.int (keyV W.H v).1, .int (keyV W.H v).2])) ∧ vs.map (keyV W.H) = ps ∧ ∀ v ∈ vs, RV K W (mvP (keyV W.H v)) v
  | [], _, _, .nil, e => by
    cases e
    exact ⟨(by simp), rfl, by simp⟩
  | x :: xs, _, ps, .cons (v := v) r t, e => by
    unfold pairsOf at e
    cases h : pairOf x with
    | none =>
      rw [h] at e
      cases e
    | some q =>
      cases h2 : pairsOf xs with
      | none =>
        rw [h, h2] at e
        cases e
      | some qs =>
        rw [h, h2] at e
        cases e
        obtain ⟨a, b, d⟩ := pairs_V t h2
        obtain ⟨ex, tt, ev, eH⟩ := pair_V r h
        have ek : keyV W.H v = q := by
          rw [ev]
          show (match W.H tt with | some (.tup [.int a, .int b]) => (a, b) | _ => (0, 0)) = q
          rw [eH]
        refine ⟨fun u hu => ?_, by rw [List.map_cons, ek, b], fun u hu => ?_⟩
        · rcases List.mem_cons.mp hu with e | hu
          · rw [e, ek]
            exact ⟨tt, ev, eH⟩
          · exact a u hu
        · rcases List.mem_cons.mp hu with e | hu
          · rw [e, ek, ← ex]
            exact r
          · exact d u hu
theorem cl_sortP : CallL K c (rSortedPO K) sortPF := fun W h xs vs Q S r p => by
  unfold sortPF at p
  split at p
  · rename_i x
    obtain ⟨v, rfl, r1⟩ := rvs_one r
    cases e : (lstOf h x).bind pairsOf with
    | none =>
      rw [e] at p
      exact p.elim
    | some ns =>
      rw [e] at p
      obtain ⟨a, ws, ys, rfl, hq, t, e2⟩ := lst_bind S r1 e
      obtain ⟨h1, h2, h3⟩ := pairs_V t e2
      refine ⟨a, ws, keyV W.H, rfl, hq, h1, fun zs d so st hd => ?_⟩
      have en : zs.map (keyV W.H) = srtB leP ns := by
        refine srt_uniq (le := leP) leP_anti (fun a => leP_iff.mpr (.inr ⟨rfl, Int.le_refl _⟩)) ?_ (srtB_srt leP_tot leP_tr ns) ?_
        · refine List.pairwise_map.mpr (List.Pairwise.imp (fun {a b} (h : ltP (keyV W.H) b a = false) => ?_) so)
          have := SrtO.lexB_no.mp h
          rw [leP_iff]
          omega
        · rw [← h2]
          exact (st.perm.map _).trans ((srtB_perm (ws.map (keyV W.H))).symm)
      refine p W (Ext.refl W) S _ d ?_ hd
      rw [← en]
      have hm : ∀ u ∈ zs, RV K W (mvP (keyV W.H u)) u := fun u hu => h3 u (st.perm.mem_iff.mp hu)
      clear en so st
      induction zs with
      | nil => exact .nil
      | cons u us ih => exact .cons (hm u (List.mem_cons_self ..)) (ih fun z hz => hm z (List.mem_cons_of_mem _ hz))
  · exact p.elim
end
def spLaw (K : PySem.W.Frag) : Sp := fun vs H Q _ => ∃ (a : Addr) (ns : List Int), vs = [.ref a] ∧ SqL K H a (ns.map V.int) ∧ ns.length ≤ 63 ∧ ∀ H', Q (.bl true) H'
theorem law_start {K : PySem.W.Frag} {mg : Str → Option Value} {f : MF} (L : ∀ ns : List Int, ns.length ≤ 63 → ∃ h, f [.frz (ns.map MV.int)] [] = ok (.bl true) h) : ∀ vs H Q E, spLaw K vs H Q E → spM K mg 1 f vs H Q E := fun vs H Q E ⟨a, ns, e, hS, hl, k⟩ => by
  subst e
  have S : Sim K ⟨fun _ => none, 0, H, fun _ => False⟩ [] := ⟨rfl, fun _ _ e => (by cases e), fun _ _ _ e => (by cases e), fun _ _ e => (by cases e), fun _ _ e => (by simp at e), fun _ _ e => (by cases e), fun _ e => e.elim⟩
  have rs : RVs K ⟨fun _ => none, 0, H, fun _ => False⟩ (ns.map MV.int) (ns.map V.int) := by
    clear hl hS
    induction ns with
    | nil => exact .nil
    | cons i l ih => exact .cons (.int i) ih
  refine ⟨⟨fun _ => none, 0, H, fun _ => False⟩, [], [.frz (ns.map MV.int)], rfl, S, .cons ?_ .nil, rfl, ?_⟩
  · rcases hS with hS | hS
    · exact .frz ⟨fun _ e => (by cases e), fun e => e.elim⟩ hS rs
    · exact .frzK (fun _ => .inr hS) rs
  · obtain ⟨h, e⟩ := L ns hl
    rw [e]
    intro W1 x1 S1 v rv
    rw [rv_bl rv]
    exact k _
end Mi
set_option maxHeartbeats 2000000
namespace Mi
open PySem L2
structure Keep (P : Nat → Prop) (h h' : MH) : Prop where
  le : h.length ≤ h'.length
  at_ : ∀ j, j < h.length → ¬ P j → h'[j]? = h[j]?
theorem at_len {h : MH} {l : Nat} {o : MO} (e : h[l]? = some o) : l < h.length := (List.getElem?_eq_some_iff.mp e).1
theorem Keep.refl {P : Nat → Prop} (h : MH) : Keep P h h := ⟨Nat.le_refl _, fun _ _ _ => rfl⟩
theorem Keep.trans {P : Nat → Prop} {h h1 h2 : MH} (a : Keep P h h1) (b : Keep P h1 h2) : Keep P h h2 := ⟨Nat.le_trans a.le b.le, fun j hj hp => (b.at_ j (Nat.lt_of_lt_of_le hj a.le) hp).trans (a.at_ j hj hp)⟩
theorem Keep.get {P : Nat → Prop} {h h' : MH} (a : Keep P h h') {j : Nat} {o : MO} (e : h[j]? = some o) (hp : ¬ P j) : h'[j]? = some o := (a.at_ j (at_len e) hp).trans e
theorem Keep.set {P : Nat → Prop} {h h' : MH} {l : Nat} {o : MO} (a : Keep P h h') (hl : l < h.length → P l) : Keep P h (h'.set l o) := ⟨by rw [List.length_set]; exact a.le, fun j hj hp => by
  rw [List.getElem?_set_ne (fun z => hp (by rw [← z]; exact hl (by rw [z]; exact hj)))]
  exact a.at_ j hj hp⟩
theorem Keep.app {P : Nat → Prop} {h h' : MH} {o : MO} (a : Keep P h h') : Keep P h (h' ++ [o]) := ⟨by
  rw [List.length_append]
  exact Nat.le_trans a.le (Nat.le_add_right _ _), fun j hj hp => by
  rw [List.getElem?_append_left (Nat.lt_of_lt_of_le hj a.le)]
  exact a.at_ j hj hp⟩
theorem get_app {h : MH} {o : MO} : (h ++ [o])[h.length]? = some o := by simp
theorem get_app_left {h : MH} {o u : MO} {j : Nat} (e : h[j]? = some u) : (h ++ [o])[j]? = some u := by
  rw [List.getElem?_append_left (at_len e)]
  exact e
theorem get_set {h : MH} {o u : MO} {l : Nat} (e : h[l]? = some u) : (h.set l o)[l]? = some o := List.getElem?_set_self (at_len e)
theorem get_set_ne {h : MH} {o u : MO} {l j : Nat} (e : h[j]? = some u) (n : j ≠ l) : (h.set l o)[j]? = some u := by
  rw [List.getElem?_set_ne (Ne.symm n)]
  exact e
theorem ixN_nat {n j : Nat} (hj : j < n) : ixN n (j : Int) = some j := by
  unfold ixN
  rw [if_pos (by omega), if_pos (by omega)]
  simp
theorem ix_lst {h : MH} {x : MV} {xs : List MV} {j : Nat} {y : MV} (hx : seqOf h x = some xs) (e : xs[j]? = some y) (hs : ∀ z, x ≠ .str z := by intro _ z; cases z) : ixF x (.int (j : Int)) h = ok y h := by
  cases x <;> first | exact absurd rfl (hs _) | (unfold ixF; dsimp only; rw [hx]; dsimp only; rw [atI_nat e])
theorem ix_ref {h : MH} {l : Nat} {xs : List MV} {j : Nat} {y : MV} (hx : h[l]? = some (.lst xs)) (e : xs[j]? = some y) : ixF (.ref l) (.int (j : Int)) h = ok y h := ix_lst (by show (match h[l]? with | some (.lst xs) => some xs | _ => none) = some xs; rw [hx]) e
theorem nd_set : ∀ {rs : List Nat} {i a : Nat}, rs.Nodup → a ∉ rs → (rs.set i a).Nodup
  | [], _, _, _, _ => by simp
  | r :: rs, 0, a, n, q => by
    rw [List.set_cons_zero]
    exact List.nodup_cons.mpr ⟨fun z => q (List.mem_cons_of_mem _ z), (List.nodup_cons.mp n).2⟩
  | r :: rs, i + 1, a, n, q => by
    rw [List.set_cons_succ]
    refine List.nodup_cons.mpr ⟨fun z => ?_, nd_set (List.nodup_cons.mp n).2 fun z => q (List.mem_cons_of_mem _ z)⟩
    rcases List.mem_or_eq_of_mem_set z with z | z
    · exact (List.nodup_cons.mp n).1 z
    · exact q (by rw [← z]; exact List.mem_cons_self ..)
structure Mat (h : MH) (R : Nat) (rows : List (List MV)) (lo : Nat) (rs : List Nat) : Prop where
  top : h[R]? = some (.lst (rs.map MV.ref))
  len : rs.length = rows.length
  nd : rs.Nodup
  no : R ∉ rs
  loR : lo ≤ R
  lor : ∀ r ∈ rs, lo ≤ r
  row : ∀ (i r : Nat) (xs : List MV), rs[i]? = some r → rows[i]? = some xs → h[r]? = some (.lst xs)
theorem Mat.getR {h : MH} {R lo : Nat} {rows : List (List MV)} {rs : List Nat} (M : Mat h R rows lo rs) {i : Nat} {xs : List MV} (e : rows[i]? = some xs) : ∃ r, rs[i]? = some r ∧ h[r]? = some (.lst xs) := by
  have hi : i < rs.length := by
    rw [M.len]
    exact (List.getElem?_eq_some_iff.mp e).1
  exact ⟨rs[i], List.getElem?_eq_getElem hi, M.row i _ xs (List.getElem?_eq_getElem hi) e⟩
theorem Mat.ix {h : MH} {R lo : Nat} {rows : List (List MV)} {rs : List Nat} (M : Mat h R rows lo rs) {i : Nat} {xs : List MV} (e : rows[i]? = some xs) : ∃ r, rs[i]? = some r ∧ h[r]? = some (.lst xs) ∧ ixF (.ref R) (.int (i : Int)) h = ok (.ref r) h := by
  obtain ⟨r, a, b⟩ := M.getR e
  exact ⟨r, a, b, ix_ref M.top (by rw [List.getElem?_map, a]; rfl)⟩
theorem Mat.wr {h : MH} {R lo : Nat} {rows : List (List MV)} {rs : List Nat} (M : Mat h R rows lo rs) {i r : Nat} {xs ys : List MV} (er : rs[i]? = some r) (e : rows[i]? = some xs) : Mat (h.set r (MO.lst ys)) R (rows.set i ys) lo rs where
  top := get_set_ne M.top fun z => M.no (by rw [z]; exact List.mem_of_getElem? er)
  len := by
    rw [List.length_set]
    exact M.len
  nd := M.nd
  no := M.no
  loR := M.loR
  lor := M.lor
  row := fun k r' zs hr hz => by
    by_cases hk : i = k
    · subst hk
      rw [er] at hr
      cases hr
      rw [List.getElem?_set_self (List.getElem?_eq_some_iff.mp e).1] at hz
      cases hz
      exact get_set (M.row i r xs er e)
    · rw [List.getElem?_set_ne hk] at hz
      refine get_set_ne (M.row k r' zs hr hz) fun z => hk ?_
      subst z
      exact nd_ix M.nd er hr
theorem Mat.put {h : MH} {R lo : Nat} {rows : List (List MV)} {rs : List Nat} (M : Mat h R rows lo rs) {i : Nat} {ys : List MV} (hlo : lo ≤ h.length) : Mat ((h ++ [MO.lst ys]).set R (MO.lst ((rs.set i h.length).map MV.ref))) R (rows.set i ys) lo (rs.set i h.length) := by
  have new : ∀ r ∈ rs, r < h.length := fun r hr => by
    obtain ⟨i, hi⟩ := List.getElem?_of_mem hr
    obtain ⟨xs, hx⟩ : ∃ xs, rows[i]? = some xs := ⟨_, List.getElem?_eq_getElem (by rw [← M.len]; exact (List.getElem?_eq_some_iff.mp hi).1)⟩
    exact at_len (M.row i r xs hi hx)
  have nR : R ≠ h.length := Nat.ne_of_lt (at_len M.top)
  have nin : h.length ∉ rs := fun z => Nat.lt_irrefl _ (new _ z)
  refine ⟨get_set (get_app_left M.top), by rw [List.length_set, List.length_set]; exact M.len, ?_, fun z => ?_, M.loR, fun r hr => ?_, fun k r zs hr hz => ?_⟩
  · exact nd_set M.nd nin
  · rcases List.mem_or_eq_of_mem_set z with z | z
    · exact M.no z
    · exact nR z
  · rcases List.mem_or_eq_of_mem_set hr with z | z
    · exact M.lor r z
    · rw [z]
      exact hlo
  · by_cases hk : i = k
    · subst hk
      have hi : i < rs.length := by
        have := (List.getElem?_eq_some_iff.mp hr).1
        rw [List.length_set] at this
        exact this
      rw [List.getElem?_set_self hi] at hr
      rw [List.getElem?_set_self (by rw [← M.len]; exact hi)] at hz
      cases hr
      cases hz
      exact get_set_ne get_app (Ne.symm nR)
    · rw [List.getElem?_set_ne hk] at hr hz
      have e := M.row k r zs hr hz
      exact get_set_ne (get_app_left e) fun z => M.no (by rw [← z]; exact List.mem_of_getElem? hr)
theorem Mat.keep {h h' : MH} {R lo : Nat} {rows : List (List MV)} {rs : List Nat} (M : Mat h R rows lo rs) {P : Nat → Prop} (k : Keep P h h') (hP : ∀ j, P j → j < lo) : Mat h' R rows lo rs := ⟨k.get M.top fun z => absurd (hP _ z) (by have := M.loR; omega), M.len, M.nd, M.no, M.loR, M.lor,
  fun i r xs hr hx => k.get (M.row i r xs hr hx) fun z => absurd (hP _ z) (by have := M.lor r (List.mem_of_getElem? hr); omega)⟩
def flatT : MV → Bool
  | .ref _ => false
  | _ => true
theorem frzL_flat : ∀ {xs : List MV} (n : Nat) (h : MH), xs.all flatT = true → frzL (n + 1) xs h = some (xs, h)
  | [], n, h, _ => by
    unfold frzL
    rfl
  | x :: xs, n, h, e => by
    rw [List.all_cons, Bool.and_eq_true] at e
    unfold frzL
    have e1 : frzV (n + 1) x h = some (x, h) := by
      unfold frzV
      cases x <;> first | rfl | cases e.1
    rw [e1]
    dsimp only
    rw [frzL_flat n h e.2]
theorem frz_lst {h : MH} {l : Nat} {xs : List MV} (n : Nat) (e : h[l]? = some (.lst xs)) (hf : xs.all flatT = true) : frzV (n + 2) (.ref l) h = some (.fls xs, h.set l .dead) := by
  unfold frzV
  dsimp only
  rw [e]
  dsimp only
  rw [frzL_flat n h hf]
theorem frzL_rows {h : MH} {P : Nat → Prop} : ∀ {rs : List Nat} {rows : List (List MV)} {g : MH} (n : Nat), Keep P h g → (∀ r ∈ rs, r < h.length → P r) → rs.length = rows.length → rs.Nodup → (∀ (i r : Nat) (xs : List MV), rs[i]? = some r → rows[i]? = some xs → g[r]? = some (.lst xs) ∧ xs.all flatT = true) →
    ∃ g', frzL (n + 2) (rs.map MV.ref) g = some (rows.map MV.fls, g') ∧ Keep P h g' ∧ ∀ j, j ∉ rs → g'[j]? = g[j]?
  | [], [], g, n, k, _, _, _, _ => ⟨g, by unfold frzL; rfl, k, fun _ _ => rfl⟩
  | r :: rs, xs :: rows, g, n, k, hp, hl, nd, hr => by
    obtain ⟨e, f⟩ := hr 0 r xs rfl rfl
    obtain ⟨nd1, nd2⟩ := List.nodup_cons.mp nd
    obtain ⟨g', e2, k2, q2⟩ := frzL_rows (rs := rs) (rows := rows) (g := g.set r .dead) n (k.set (hp r (List.mem_cons_self ..))) (fun a ha => hp a (List.mem_cons_of_mem _ ha)) (by simpa using hl) nd2 (fun i a ys ha hy => by
      obtain ⟨e', f'⟩ := hr (i + 1) a ys (by simpa using ha) (by simpa using hy)
      exact ⟨get_set_ne e' fun z => nd1 (by rw [← z]; exact List.mem_of_getElem? ha), f'⟩)
    refine ⟨g', ?_, k2, fun j hj => ?_⟩
    · rw [List.map_cons, List.map_cons]
      unfold frzL
      rw [frz_lst n e f]
      dsimp only
      rw [e2]
    · rw [q2 j fun z => hj (List.mem_cons_of_mem _ z), List.getElem?_set_ne fun z => hj (by rw [z]; exact List.mem_cons_self ..)]
  | [], _ :: _, _, _, _, _, hl, _, _ => by simp at hl
  | _ :: _, [], _, _, _, _, hl, _, _ => by simp at hl
theorem Mat.frz {h0 h : MH} {R lo : Nat} {rows : List (List MV)} {rs : List Nat} (M : Mat h R rows lo rs) {P : Nat → Prop} (k : Keep P h0 h) (hlo : h0.length ≤ lo) (hf : ∀ xs ∈ rows, xs.all flatT = true) : ∃ h', frzV 4 (.ref R) h = some (.fls (rows.map MV.fls), h') ∧ Keep P h0 h' := by
  obtain ⟨g, e, k2, q⟩ := frzL_rows (h := h0) (P := P) (rs := rs) (rows := rows) (g := h) 1 k (fun r hr hlt => absurd (M.lor r hr) (by omega)) M.len M.nd fun i r xs hr hx => ⟨M.row i r xs hr hx, hf xs (List.mem_of_getElem? hx)⟩
  refine ⟨g.set R .dead, ?_, k2.set fun hlt => absurd M.loR (by omega)⟩
  unfold frzV
  dsimp only
  rw [M.top]
  dsimp only
  rw [e]
def tb {α : Type} (n : Nat) (F : Nat → α) : List α := (List.range n).map F
@[simp] theorem tb_len {α : Type} {n : Nat} {F : Nat → α} : (tb n F).length = n := by simp [tb]
def matV (n k : Nat) (f : Nat → Nat → Bool) : MV := .fls (tb n fun x => .fls (tb k fun y => .bl (f x y)))
end Mi
set_option maxHeartbeats 2000000
namespace Mi
open PySem L2
set_option maxHeartbeats 1000000 in
theorem enum1_meets {v : Value} {o : Obj} {Fr : Heap → Prop} (B : Begins v o Fr) :
    Meets (Builtin.«enumerate.__new__» ⟨[.type "enumerate", v], []⟩) (fun _ R s => Fr s.heap ∧ R (.ok (.ret (.ref (s.heap.push o).objs.size)))
        { s with heap := (s.heap.push o).push { cls := .type "enumerate", data := .fields #[.none, .bool false, .ref s.heap.objs.size, rawInt 0, .none, .none] } }) :=
  .of_wp fun pr wo A R st h => by
    obtain ⟨hp, g, d, tk, os⟩ := st
    obtain ⟨h1, h2⟩ := h
    have sub1 := sub_enumerate
    have it1 : ∀ {A' : Around} {E : Value → Shared → Prop} {Q : Value → Shared → Prop}, Q (.ref hp.objs.size) ⟨hp.push o, g, d, tk, os⟩ → wpAny (model pr wo) A' (pyIter v) Q E ⟨hp, g, d, tk, os⟩ := fun q => B.iter pr wo _ _ ⟨hp, g, d, tk, os⟩ _ h1 q
    wp_walk using it1
    refine wpAny_stack_any fun _ => wpAny_pure ?_
    split
    · rename_i cc _ _ _ _ _
      cases (cc == Value.type "enumerate") <;> (wp_walk using it1; exact ⟨_, rfl, h2⟩)
    · wp_walk using it1
      exact ⟨_, rfl, h2⟩
theorem enum1_call {prog : Program} {w : World} {A : Around} {E : Value → Shared → Prop} {s : Shared} {v : Value} {o : Obj} {Fr : Heap → Prop} {Q : Value → Shared → Prop} (B : Begins v o Fr) (h1 : Fr s.heap)
    (h : ∀ g, IsEnum g (s.heap.objs.size + 1) s.heap.objs.size 0 .none → g.get? s.heap.objs.size = some o → (∀ b u, s.heap.get? b = some u → g.get? b = some u) → Q (.ref (s.heap.objs.size + 1)) { s with heap := g }) :
    wpAny (model prog w) A (call (.type "enumerate") [v]) Q E s := by
  refine callType_new F.called_enumerate (by decide) (F.typeCall_enumerate_1 _) (F.newCall_enumerate_1 _) (fun obj => F.args_object_init_2 obj _) F.entry_enumerate_new (enum1_meets B) ⟨h1, ?_⟩
  have z : (s.heap.push o).objs.size = s.heap.objs.size + 1 := Heap.size_push ..
  show _ ∧ _
  rw [z]
  have e1 : IsEnum ((s.heap.push o).push { cls := .type "enumerate", data := .fields #[.none, .bool false, .ref s.heap.objs.size, rawInt 0, .none, .none] }) (s.heap.objs.size + 1) s.heap.objs.size 0 .none := by
    have q := Heap.get?_push_size (s.heap.push o) (o := { cls := .type "enumerate", data := .fields #[.none, .bool false, .ref s.heap.objs.size, rawInt 0, .none, .none] }) rfl
    rw [z] at q
    exact q
  exact ⟨⟨_, e1, rfl⟩, h _ e1 (Heap.get?_push_of_some _ (Heap.get?_push_size _ B.free)) fun b u x => Heap.get?_push_of_some _ (Heap.get?_push_of_some _ x)⟩
theorem enumT_end {prog : Program} {w : World} {A : Around} {E : Value → Shared → Prop} {s : Shared} {e it l : Addr} {i : Nat} {items : Array Value} {old : Value} {Q : Option Value → Shared → Prop} (hh : A.handled = none) (he : IsEnum s.heap e it i old)
    (hit : s.heap.IsTupleIter it l i) (hl : s.heap.IsTuple l items) (hx : items[i]? = none) (hQ : ∀ g, Heap.ExtBut it s.heap g → Q none { s with heap := g }) : wpAny (model prog w) A (pyNext (.ref e)) Q E s := by
  have ty : s.TypeIs (.ref e) "enumerate" := ⟨_, he, rfl⟩
  unfold pyNext
  refine wpAny_bind (wpAny_attempt (wpAny_callSpecial?_slot (name := Str.ofString "__next__") ty F.slot_enumerate_next (wpAny_call_entry F.slot_enumerate_next ty F.entry_enumerate_next ?_ (F.args_enumerate_next_1 _))))
  show wpAny _ _ (field (.ref e) 2 >>= _) _ _ _
  refine wpAny_bind (wpAny_field he rfl (x := .ref it) rfl (wpAny_bind (wpAny_nextOf_tuple_end hh hit hl hx fun g x eg hx' => ?_)))
  obtain ⟨o, ho, hc⟩ := hx'
  exact wpAny_bind (wpAny_isInstance (T := "StopIteration") (b := true) ⟨o, ho, hc⟩ isSubtype_stop (wpAny_pure (hQ _ eg)))
def Itu (K : PySem.W.Frag) (a : Addr) : It :=
  ⟨fun i H => ∃ (xs : List V) (x : V), SqT K H a xs ∧ xs[i]? = some x, fun i H v H' => ∃ T x, v = .ref T ∧ H T = none ∧ H' = upd H T (.tup [.int (i : Nat), x]) ∧ ∀ xs, SqT K H a xs → xs[i]? = some x, fun i H => ∃ xs : List V, SqT K H a xs ∧ xs.length ≤ i⟩
theorem turn_enumT {P : Program} {w : World} {K : PySem.W.Frag} {elts : List Expr} {kk : Nat} {tpos : Pos} (a e it : Addr) :
    Turn P w K (.Tuple elts kk tpos) (Itu K a) [e, it] e (fun i h => (∃ old, IsEnum h e it ((i : Nat) : Int) old) ∧ h.IsTupleIter it a i ∧ e ≠ it) where
  mem := by simp
  obj := fun i h st b hb => by
    obtain ⟨⟨old, he⟩, ⟨o, ho, hc, hd⟩, _⟩ := st
    rcases (show b = e ∨ b = it by simpa using hb) with z | z <;> rw [z]
    · exact ⟨_, he, fun v q => nomatch q⟩
    · exact ⟨o, ho, fun v q => by rw [hd] at q; cases q⟩
  keep := fun i h h' st k => ⟨⟨st.1.choose, k e (by simp) _ st.1.choose_spec⟩, st.2.1.at fun o q => k it (by simp) o q, st.2.2⟩
  item := by
    intro X hP hw hK hc i pins s σ H E I hf st hg
    subst hP hw hK
    obtain ⟨⟨old, he⟩, hit, hne⟩ := st
    obtain ⟨xs, x, hq, hx⟩ := hg
    obtain ⟨its, rv, p, hz⟩ := I.tuple hq
    obtain ⟨u, hu, ru⟩ := rv.get hx
    have pt : s.heap.IsTuple a its.toArray := p
    have hai : a ≠ it := fun z => by
      subst z
      obtain ⟨o1, a1, a2, _⟩ := pt
      obtain ⟨o2, b1, b2, _⟩ := hit
      rw [a1] at b1
      cases b1
      rw [a2] at b2
      exact absurd b2 (by decide)
    have hae : e ≠ a := fun z => by
      subst z
      obtain ⟨o1, a1, a2, _⟩ := pt
      have he' := he
      unfold IsEnum at he'
      rw [a1] at he'
      cases he'
      exact absurd (show Value.type "enumerate" = Value.type "tuple" from a2) (by decide)
    have hel : e < s.heap.objs.size := Heap.lt_size he
    have hil : it < s.heap.objs.size := hit.elim fun _ q => Heap.lt_size q.1
    have hlt : i < its.toArray.size := by
      have := (List.getElem?_eq_some_iff.mp hu).1
      simpa using this
    refine wpAny_pyNext_enum_itemC (Draws.tuple (A := X.A.in1) (I.ok.hd hc) it a hai its.toArray) he ⟨hit, pt⟩ hlt hne (by simp [hne, hae]) fun x' h' tk hP ho hs' hT hsz hk => ?_
    obtain rfl : x' = u := by
      have : its[i]? = some x' := by simpa using hP
      rw [hu] at this
      exact (Option.some.inj this).symm
    refine ⟨_, rfl, wpAny_letOwnedTupleGo_enum (s := { s with heap := h', toks := tk + 1 }) ho fun g he' sb => ?_⟩
    have hT2 : g.get? s.heap.objs.size = some { cls := .type "tuple", data := .seq #[.int i tk, x'] } := (sb.2 _ (Nat.ne_of_gt hel)).trans hT
    have new : ObjOk X.prog X.w (upd H s.heap.objs.size (.tup [.int (i : Nat), x])) g s.heap.objs.size (.tup [.int (i : Nat), x]) :=
      ⟨by show 2 ≤ sizeLine; decide, [.int i tk, x'], .cons ⟨_, rfl⟩ (.cons ru .nil), ⟨_, hT2, rfl, _, rfl⟩⟩
    have I1 : Inv X pins σ (upd H s.heap.objs.size (.tup [.int (i : Nat), x])) { s with heap := g, toks := tk + 1 } :=
      I.turnedNew (ch := [e, it]) (fun b ob hb q => (sb.2 b (fun z => hb (by simp [z]))).trans (hk b ob (fun z => hb (by simp [z])) (fun z => hb (by simp [z])) q)) hf (Nat.le_refl _) new
    refine ⟨.ref s.heap.objs.size, _, I1, rfl, ⟨_, x, rfl, I.hok.fresh (Nat.le_refl _), rfl, fun ys hy => by rw [I.tuple_inj hy hq]; exact hx⟩, ⟨⟨x', ?_⟩, hs'.1.at fun o q => (sb.2 it (Ne.symm hne)).trans q, hne⟩, fun b hb => ?_⟩
    · rw [show ((i + 1 : Nat) : Int) = (i : Int) + 1 by omega]
      exact he'
    · have hb' : b < s.heap.objs.size := by
        rcases (show b = e ∨ b = it by simpa using hb) with z | z <;> rw [z]
        · exact hel
        · exact hil
      rw [upd_ne (Nat.ne_of_lt hb')]
      exact (hf b hb).1
  done := by
    intro X hP hw hK hc i pins s σ H E I hf st hg
    subst hP hw hK
    obtain ⟨⟨old, he⟩, hit, hne⟩ := st
    obtain ⟨xs, hq, hx⟩ := hg
    obtain ⟨its, rv, p, hz⟩ := I.tuple hq
    have pt : s.heap.IsTuple a its.toArray := p
    obtain ⟨f0, f1, f2, f3, f4, f5⟩ := hf it (by simp)
    have hl := rv.length
    exact enumT_end (I.ok.hd hc) he hit pt (by simp; omega) fun h' eb => ⟨rfl, I.turned (t' := s.toks) (fun b o hb e => eb b o hb e) f0 f1 f3 f4 f5⟩
  self := fun A i s Q E st h => wpAny_pyIter_enum st.1.choose_spec h
def iEn (K : PySem.W.Frag) (ta : TA) : TI := fun σ H R => ta σ H fun vs H1 => ∃ a, vs = [.ref a] ∧ ((∃ xs, SqL K H1 a xs ∧ R (Ite K a) H1) ∨ ∃ xs, SqT K H1 a xs ∧ R (Itu K a) H1)
theorem pi_en {X : Cx} {e : Expr} {ta : TA} {p pos tpos : Pos} {elts : List Expr} {kk : Nat} (hg : Gl X "enumerate") (hm : X.mg "enumerate" = none) (ha : PA X [e] ta) (hs : starEach [e] X.env = [(false, eval e X.env)] := by rfl) :
    PI X (.Tuple elts kk tpos) (.Call (.Name "enumerate" p) [e] [] pos) (iEn X.K ta) := by
  refine ⟨fun pins s σ H R I h => PyProof.Rows.Call_ (ld_blt I hg hm PyProof.Rows.boot_enumerate (PyProof.Rows.callWith_type1 (thn (ha.run pos pins s σ H _ I h) fun us s1 ⟨vs, H1, I1, r1, a, ex, q1⟩ => ?_) hs rfl))⟩
  subst ex
  obtain _ | ⟨r, rr⟩ := r1
  cases rr
  cases r
  have fp : ∀ b ∈ [s1.heap.objs.size + 1, s1.heap.objs.size], FpOk X pins H1 b := fun b hb => by
    have hle : s1.heap.objs.size ≤ b := by
      rcases (show b = s1.heap.objs.size + 1 ∨ b = s1.heap.objs.size by simpa using hb) with z | z <;> omega
    exact I1.fpOk hle (I1.hok.fresh hle)
  rcases q1 with ⟨xs, hq, q⟩ | ⟨xs, hq, q⟩
  · obtain ⟨its, rv, pl, hz⟩ := I1.list hq
    refine enum1_call (begins_list a its.toArray) pl.isList fun g he hit hk => wpAny_pyIter_enum he ?_
    exact ⟨s1.heap.objs.size + 1, [s1.heap.objs.size + 1, s1.heap.objs.size], _, _, H1, rfl, I1.kept (t' := s1.toks) hk, turn_enum a (s1.heap.objs.size + 1) s1.heap.objs.size, ⟨⟨.none, he⟩, ⟨_, hit, rfl, rfl⟩, Nat.succ_ne_self _⟩, fp, q⟩
  · obtain ⟨its, rv, pl, hz⟩ := I1.tuple hq
    refine enum1_call (begins_tuple a its.toArray) (show s1.heap.IsTuple a its.toArray from pl) fun g he hit hk => wpAny_pyIter_enum he ?_
    exact ⟨s1.heap.objs.size + 1, [s1.heap.objs.size + 1, s1.heap.objs.size], _, _, H1, rfl, I1.kept (t' := s1.toks) hk, turn_enumT a (s1.heap.objs.size + 1) s1.heap.objs.size, ⟨⟨.none, he⟩, ⟨_, hit, rfl, rfl⟩, Nat.succ_ne_self _⟩, fp, q⟩
def stOf : MV → Option (List MV)
  | .tup xs => some xs
  | .ktp xs => some xs
  | .fls xs => some xs
  | .frz xs => some xs
  | _ => none
def enmOf : Nat → List MV → List MV
  | _, [] => []
  | i, x :: xs => .tup [.int (i : Int), x] :: enmOf (i + 1) xs
theorem enm_len : ∀ {i : Nat} {xs : List MV}, (enmOf i xs).length = xs.length
  | _, [] => rfl
  | i, x :: xs => by
    show (enmOf (i + 1) xs).length + 1 = xs.length + 1
    rw [enm_len]
theorem enm_get : ∀ {i k : Nat} {xs : List MV}, (enmOf i xs)[k]? = (xs[k]?).map fun x => .tup [.int ((i + k : Nat) : Int), x]
  | _, _, [] => by simp [enmOf]
  | i, 0, x :: xs => rfl
  | i, k + 1, x :: xs => by
    show (enmOf (i + 1) xs)[k]? = (xs[k]?).map _
    rw [enm_get, show i + 1 + k = i + (k + 1) by omega]
@[simp ↓] def enmF (xs : List MV) (h : MH) : Res MIter := match xs with
  | [x] => match stOf x with
    | some ys => ok (.st (enmOf 0 ys)) h
    | none => match x with
      | .ref l => match h[l]? with
        | some (.lst xs) => ok (.enm l (xs.length + 1)) h
        | _ => none
      | _ => none
  | _ => none
@[simp ↓] def enmI (m : MM (List MV)) : MM MIter := fun s h => (m s h).bnd enmF
section
variable {X : Cx} {c : XC} {K : PySem.W.Frag} {W : Wd}
theorem jr_enL {x : MV} {u : V} {xs : List MV} {h : MH} (S : Sim K W h) (r : RV K W x u) (hx : x = .fls xs ∨ x = .frz xs) : ∃ a, u = .ref a ∧ (∃ vs, SqL K W.H a vs) ∧ JR K W (.st (enmOf 0 xs)) (Ite K a) := by
  have go : ∀ (W' : Wd), Ext W W' → ∀ h', Sim K W' h' → ∃ a vs, u = .ref a ∧ SqL K W'.H a vs ∧ RVs K W' xs vs := fun W' x' h' S' => by
    have r' := r.mono x'
    rcases hx with e | e <;> subst e <;> exact lst_sq (h := h') S' r' rfl
  obtain ⟨a, vs, e1, e2, t⟩ := go W (Ext.refl W) h S
  refine ⟨a, e1, ⟨vs, e2⟩, fun i W' h' x' S' => ?_⟩
  obtain ⟨b, ws, f1, f2, t'⟩ := go W' x' h' S'
  rw [e1] at f1
  cases f1
  refine ⟨fun y hy => ?_, fun hi => ⟨ws, f2, by rw [← t'.length, ← enm_len (i := 0)]; exact hi⟩⟩
  rw [enm_get] at hy
  cases hx0 : xs[i]? with
  | none =>
    rw [hx0] at hy
    cases hy
  | some x0 =>
    rw [hx0] at hy
    cases hy
    obtain ⟨v, hv, rv⟩ := t'.get hx0
    refine ⟨⟨ws, v, f2, hv⟩, fun v2 H2 ⟨T, z, e, hT, eh, y2⟩ => ?_⟩
    have q := y2 ws f2
    rw [hv] at q
    cases q
    subst e
    subst eh
    exact enm_yld S' hT rv
theorem jr_enT {x : MV} {u : V} {xs : List MV} {h : MH} (S : Sim K W h) (r : RV K W x u) (hx : x = .tup xs ∨ x = .ktp xs) : ∃ a, u = .ref a ∧ (∃ vs, SqT K W.H a vs) ∧ JR K W (.st (enmOf 0 xs)) (Itu K a) := by
  have sq : ∀ {W' : Wd}, RV K W' x u → ∃ p vs, u = .ref p ∧ SqT K W'.H p vs ∧ RVs K W' xs vs := fun r => by
    rcases hx with e | e <;> subst e
    · exact tup_sq r
    · exact ktp_sq r
  obtain ⟨a, vs, e1, e2, t⟩ := sq r
  refine ⟨a, e1, ⟨vs, e2⟩, fun i W' h' x' S' => ?_⟩
  obtain ⟨b, ws, f1, f2, t'⟩ := sq (r.mono x')
  rw [e1] at f1
  cases f1
  refine ⟨fun y hy => ?_, fun hi => ⟨ws, f2, by rw [← t'.length, ← enm_len (i := 0)]; exact hi⟩⟩
  rw [enm_get] at hy
  cases hx0 : xs[i]? with
  | none =>
    rw [hx0] at hy
    cases hy
  | some x0 =>
    rw [hx0] at hy
    cases hy
    obtain ⟨v, hv, rv⟩ := t'.get hx0
    refine ⟨⟨ws, v, f2, hv⟩, fun v2 H2 ⟨T, z, e, hT, eh, y2⟩ => ?_⟩
    have q := y2 ws f2
    rw [hv] at q
    cases q
    subst e
    subst eh
    exact enm_yld S' hT rv
theorem im_enm {e : Expr} {m : MM (List MV)} {p pos tpos : Pos} {elts : List Expr} {kk : Nat} (hg : Gl X "enumerate") (hm : X.mg "enumerate" = none) (ha : AM X c [e] m) (hs : starEach [e] X.env = [(false, eval e X.env)] := by rfl) :
    IM X c (.Tuple elts kk tpos) (.Call (.Name "enumerate" p) [e] [] pos) (enmI m) := pi_wk (pi_en hg hm ha hs) fun σ H R ⟨W, h, s, e, S, rs, p⟩ => by
  subst e
  refine ⟨W, h, s, rfl, S, rs, p.bnd fun W1 h1 xs x1 S1 p1 vs r1 => ?_⟩
  match xs, vs, r1, p1 with
  | [x], [v], .cons r .nil, p1 =>
    cases x with
    | tup ys =>
      have p2 : Pst X.K c (CI X.K R) W1 (ok (.st (enmOf 0 ys)) h1) := p1
      obtain ⟨a, e1, ⟨vs, e2⟩, j⟩ := jr_enT S1 r (.inl rfl)
      exact ⟨a, by rw [e1], .inr ⟨vs, e2, Pst.now p2 S1 _ j⟩⟩
    | ktp ys =>
      have p2 : Pst X.K c (CI X.K R) W1 (ok (.st (enmOf 0 ys)) h1) := p1
      obtain ⟨a, e1, ⟨vs, e2⟩, j⟩ := jr_enT S1 r (.inr rfl)
      exact ⟨a, by rw [e1], .inr ⟨vs, e2, Pst.now p2 S1 _ j⟩⟩
    | fls ys =>
      have p2 : Pst X.K c (CI X.K R) W1 (ok (.st (enmOf 0 ys)) h1) := p1
      obtain ⟨a, e1, ⟨vs, e2⟩, j⟩ := jr_enL S1 r (.inl rfl)
      exact ⟨a, by rw [e1], .inl ⟨vs, e2, Pst.now p2 S1 _ j⟩⟩
    | frz ys =>
      have p2 : Pst X.K c (CI X.K R) W1 (ok (.st (enmOf 0 ys)) h1) := p1
      obtain ⟨a, e1, ⟨vs, e2⟩, j⟩ := jr_enL S1 r (.inr rfl)
      exact ⟨a, by rw [e1], .inl ⟨vs, e2, Pst.now p2 S1 _ j⟩⟩
    | ref l =>
      have p3 : Pst X.K c (CI X.K R) W1 (match h1[l]? with
        | some (.lst xs) => ok (.enm l (xs.length + 1)) h1
        | _ => none) := p1
      cases hl : h1[l]? with
      | none =>
        rw [hl] at p3
        exact p3.elim
      | some o =>
        rw [hl] at p3
        cases o with
        | dead => exact p3.elim
        | dK kvs => exact p3.elim
        | dT kvs => exact p3.elim
        | ins cn kvs => exact p3.elim
        | lst ys =>
          obtain ⟨a, e1, ea, vs, e3, t⟩ := S1.at hl (by intro z; cases z) r
          exact ⟨a, by rw [e1], .inl ⟨vs, .inl (.inl e3), Pst.now p3 S1 _ ⟨a, ea, rfl⟩⟩⟩
    | _ => exact p1.elim
  | [], _, _, p1 => exact p1.elim
  | _ :: _ :: _, _, _, p1 => exact p1.elim
end
end Mi
set_option maxHeartbeats 2000000
namespace Mi
open PySem L2
def keyOf : MV → Option Key
  | .int i => some (.inl i)
  | .str x => some (.inr x)
  | _ => none
def valM {κ : Type} [DecidableEq κ] (kvs : List (κ × MV)) (k : κ) : Option MV := (kvs.find? fun p => decide (p.1 = k)).map (·.2)
def putM {κ : Type} [DecidableEq κ] (kvs : List (κ × MV)) (k : κ) (v : MV) : List (κ × MV) :=
  if (kvs.any fun p => decide (p.1 = k)) = true then kvs.map (fun p => if p.1 = k then (p.1, v) else p) else kvs ++ [(k, v)]
section
variable {K : PySem.W.Frag} {W : Wd}
theorem key_V {x : MV} {v : V} {k : Key} (r : RV K W x v) (e : keyOf x = some k) : v = kV k := by
  cases x <;> first | (cases e; done) | skip
  · cases e
    rw [rv_int r]
    rfl
  · cases e
    cases r
    rfl
theorem RKV.length {κ : Type} : ∀ {ms : List (κ × MV)} {vs : List (κ × V)}, RKV K W ms vs → ms.length = vs.length
  | _, _, .nil => rfl
  | _, _, .cons _ t => by rw [List.length_cons, List.length_cons, RKV.length t]
theorem RKV.val {κ : Type} [DecidableEq κ] (k : κ) : ∀ {ms : List (κ × MV)} {vs : List (κ × V)}, RKV K W ms vs → (∀ x, valM ms k = some x → ∃ v, valV vs k = some v ∧ RV K W x v) ∧ (valM ms k).isSome = (valV vs k).isSome
  | _, _, .nil => ⟨fun x e => (nomatch e), rfl⟩
  | _, _, .cons (k := j) (x := y) (xs := ms) (vs := vs) r t => by
    obtain ⟨a, b⟩ := RKV.val k t
    by_cases h : j = k
    · have e : valM ((j, y) :: ms) k = some y := by simp [valM, List.find?_cons, h]
      rw [e, valV_pos h]
      exact ⟨fun x z => (by cases z; exact ⟨_, rfl, r⟩), rfl⟩
    · have e : valM ((j, y) :: ms) k = valM ms k := by simp [valM, List.find?_cons, h]
      rw [e, valV_neg h]
      exact ⟨a, b⟩
theorem RKV.any {κ : Type} [DecidableEq κ] (k : κ) : ∀ {ms : List (κ × MV)} {vs : List (κ × V)}, RKV K W ms vs → (ms.any fun p => decide (p.1 = k)) = vs.any fun p => decide (p.1 = k)
  | _, _, .nil => rfl
  | _, _, .cons r t => by rw [List.any_cons, List.any_cons, RKV.any k t]
theorem RKV.app {κ : Type} {k : κ} {x : MV} {v : V} (r : RV K W x v) : ∀ {ms : List (κ × MV)} {vs : List (κ × V)}, RKV K W ms vs → RKV K W (ms ++ [(k, x)]) (vs ++ [(k, v)])
  | _, _, .nil => .cons r .nil
  | _, _, .cons q t => .cons q (RKV.app r t)
theorem RKV.repl {κ : Type} [DecidableEq κ] {k : κ} {x : MV} {v : V} (r : RV K W x v) : ∀ {ms : List (κ × MV)} {vs : List (κ × V)}, RKV K W ms vs → RKV K W (ms.map fun p => if p.1 = k then (p.1, x) else p) (vs.map fun p => if p.1 = k then (p.1, v) else p)
  | _, _, .nil => .nil
  | _, _, .cons (k := j) q t => by
    rw [List.map_cons, List.map_cons]
    by_cases h : j = k
    · rw [if_pos h, if_pos h]
      exact .cons r (RKV.repl r t)
    · rw [if_neg h, if_neg h]
      exact .cons q (RKV.repl r t)
theorem RKV.put {κ : Type} [DecidableEq κ] {k : κ} {x : MV} {v : V} {ms : List (κ × MV)} {vs : List (κ × V)} (t : RKV K W ms vs) (r : RV K W x v) : RKV K W (putM ms k x) (putK vs k v) := by
  unfold putM putK
  rw [t.any k]
  by_cases h : (vs.any fun p => decide (p.1 = k)) = true
  · rw [if_pos h, if_pos h]
    exact t.repl r
  · rw [if_neg h, if_neg h]
    exact t.app r
theorem Sim.dictAt {h : MH} (S : Sim K W h) {l : Nat} {kvs : List (Key × MV)} {v : V} (e : h[l]? = some (.dK kvs)) (r : RV K W (.ref l) v) : ∃ a kws, v = .ref a ∧ W.f l = some a ∧ W.H a = some (.dK kws) ∧ RKV K W kvs kws := by
  obtain ⟨a, e1, e2, kws, e3, t⟩ := S.at e (by intro z; cases z) r
  exact ⟨a, kws, e1, e2, e3, t⟩
end
@[simp ↓] def dgetF (x y : MV) (h : MH) : Res MV := match x with
  | .ref l => match h[l]?, keyOf y with
    | some (.dK kvs), some k => match valM kvs k with
      | some v => ok v h
      | none => none
    | _, _ => none
  | _ => none
@[simp ↓] def dinF (y x : MV) (h : MH) : Res MV := match x with
  | .ref l => match h[l]?, keyOf y with
    | some (.dK kvs), some k => ok (.bl (valM kvs k).isSome) h
    | _, _ => none
  | _ => none
@[simp ↓] def dninF (y x : MV) (h : MH) : Res MV := match x with
  | .ref l => match h[l]?, keyOf y with
    | some (.dK kvs), some k => ok (.bl (!(valM kvs k).isSome)) h
    | _, _ => none
  | _ => none
def rDIn : R2 := fun y x H Q => ∃ a o, x = .ref a ∧ DGet H a y o ∧ Q (.bl o.isSome) H
section
variable {X : Cx} {c : XC} {K : PySem.W.Frag} {W : Wd} {o i : Expr} {pos : Pos}
theorem op_din (hu : X.A.units + 64 < cLine) : OpR X (compareOp .In) rDIn := fun pins s σ H y x u v Q I ry rx ⟨a, ov, e, g, q⟩ => by
  subst e
  obtain rfl : v = Value.ref a := rx
  exact d_in (by omega) I g ry fun s3 I3 => ⟨.bl ov.isSome, H, I3, rfl, q⟩
theorem dict_key {h : MH} {l : Nat} {y : MV} {u v : V} {kvs : List (Key × MV)} {k : Key} (S : Sim K W h) (r : RV K W (.ref l) v) (ry : RV K W y u) (e : h[l]? = some (.dK kvs)) (ek : keyOf y = some k) :
    ∃ a kws, v = .ref a ∧ DGet W.H a u (valV kws k) ∧ RKV K W kvs kws := by
  obtain ⟨a, kws, e1, e2, e3, t⟩ := S.dictAt e r
  refine ⟨a, kws, e1, ?_, t⟩
  rw [key_V ry ek]
  exact DGet.k e3
theorem opm_din : OpM K c rDIn dinF := fun W h y x u v Q S ry rx p => by
  unfold dinF at p
  cases x <;> first | exact p.elim | skip
  rename_i l
  dsimp only at p
  cases hl : h[l]? with
  | none =>
    rw [hl] at p
    exact p.elim
  | some ob =>
    cases hk : keyOf y with
    | none =>
      rw [hl, hk] at p
      cases ob <;> exact p.elim
    | some k =>
      rw [hl, hk] at p
      cases ob <;> first | exact p.elim | skip
      rename_i kvs
      obtain ⟨a, kws, e1, g, t⟩ := dict_key S rx ry hl hk
      exact ⟨a, _, e1, g, by rw [← (t.val k).2]; exact Pst.now p S _ (.bl _)⟩
theorem em_dget {mo mi : ME} (hu : X.A.units + 64 < cLine) (ho : EM X c o mo) (hi : EM X c i mi) (hs : NoSl i) : EM X c (.Subscript o i pos) (opM dgetF mo mi) := pe_wk (pe_dget (by omega) ho hi hs) fun σ H Q ⟨W, h, s, e, S, rs, p⟩ => by
  subst e
  refine ⟨W, h, s, rfl, S, rs, p.bnd fun W1 h1 x x1 S1 p1 v r1 => ?_⟩
  refine ⟨W1, h1, s, rfl, S1, rs.mono x1, p1.bnd fun W2 h2 y x2 S2 p2 u r2 => ?_⟩
  unfold dgetF at p2
  cases x <;> first | exact p2.elim | skip
  rename_i l
  dsimp only at p2
  cases hl : h2[l]? with
  | none =>
    rw [hl] at p2
    exact p2.elim
  | some ob =>
    cases hk : keyOf y with
    | none =>
      rw [hl, hk] at p2
      cases ob <;> exact p2.elim
    | some k =>
      rw [hl, hk] at p2
      cases ob <;> first | exact p2.elim | skip
      rename_i kvs
      obtain ⟨a, kws, e1, g, t⟩ := dict_key S2 (r1.mono x2) r2 hl hk
      dsimp only at p2
      cases hv : valM kvs k with
      | none =>
        rw [hv] at p2
        exact p2.elim
      | some z =>
        rw [hv] at p2
        obtain ⟨w, e2, rw'⟩ := (t.val k).1 z hv
        rw [e2] at g
        exact ⟨a, w, e1, g, Pst.now p2 S2 _ rw'⟩
end
def dcS (g : MV → MS → Option MS) (cd : MM Bool) (ke ve : ME) (s0 : MS) (l : Nat) : List MV → MH → Res MV
  | [], h => ok (.ref l) h
  | x :: xs, h => match g x s0 with
    | none => none
    | some s1 => (cd s1 h).bnd fun b h1 => if b = true then (ke s1 h1).bnd fun y h2 => (ve s1 h2).bnd fun z h3 => match keyOf y, h3[l]? with
        | some k, some (.dK kvs) => if kvs.length < lim then dcS g cd ke ve s0 l xs (h3.set l (.dK (putM kvs k z))) else none
        | _, _ => none
      else dcS g cd ke ve s0 l xs h1
@[simp ↓] def dcM (mi : MM MIter) (vs : List Nat) (g : MV → MS → Option MS) (cd : MM Bool) (ke ve : ME) : ME := fun s h => (mi s h).bnd fun it h1 => match it with
  | .st its => dcS g cd ke ve (wipeM s vs) h1.length its (h1 ++ [.dK []])
  | _ => none
section
variable {X : Cx} {c : XC}
theorem dc_of {K : PySem.W.Frag} {vs : List Nat} {mi : MM MIter} {t : TG} {g : MV → MS → Option MS} {cd : MM Bool} {ke ve : ME} (ho : TgC K t g vs) {σ : St} {H : Hp} {Q : VK} (q : tM K c (dcM mi vs g cd ke ve) σ H Q) : tDc (tMI K c mi) t (tMB K c cd) (tM K c ke) (tM K c ve) vs σ H Q := by
  obtain ⟨W, h, s, e, S, rs, p⟩ := q
  subst e
  refine ⟨W, h, s, rfl, S, rs, p.bnd fun W1 h1 it x1 S1 p1 J jr D hD => ?_⟩
  have rs1 : RS K W1 (wipeM s vs) (L2.wipe σ vs) := (rs.mono x1).wipe _
  cases it with
  | dyn l k => exact p1.elim
  | enm l k => exact p1.elim
  | st its =>
    have xa : Ext W1 (W1.add D (.dK [])) := Ext.add S1 hD
    have Sa : Sim K (W1.add D (.dK [])) (h1 ++ [.dK []]) := S1.add hD ⟨[], upd_same, .nil⟩
    have fl : (W1.add D (.dK [])).f h1.length = some D := by
      show (if h1.length = W1.n then some D else W1.f h1.length) = some D
      rw [if_pos S1.n.symm]
    have ln : h1.length < (W1.add D (.dK [])).n := by
      show h1.length < W1.n + 1
      rw [S1.n]
      exact Nat.lt_succ_self _
    have isD : ∀ W' : Wd, Ext (W1.add D (.dK [])) W' → ∀ b, W'.f h1.length = some b → b = D := fun W' x' b hb => by
      rcases x'.agree _ ln with q | q
      · rw [q, fl] at hb
        exact (Option.some.inj hb).symm
      · rw [q] at hb
        cases hb
    refine ⟨fun i n H' => n = its.length - i ∧ i ≤ its.length ∧ ∃ W' h', W'.H = H' ∧ Ext (W1.add D (.dK [])) W' ∧ Sim K W' h' ∧ Pst K c (CV K Q) W1 (dcS g cd ke ve (wipeM s vs) h1.length (its.drop i) h'),
      ⟨its.length, rfl, Nat.zero_le _, _, _, rfl, Ext.refl _, Sa, p1⟩, ?_⟩
    rintro i n H' ⟨hn, hle, W', h', rfl, x', S', p'⟩
    obtain ⟨j1, j2⟩ := jr i W' h' (xa.trans x') S'
    by_cases hi : i < its.length
    · obtain ⟨jg, jy⟩ := j1 its[i] (List.getElem?_eq_getElem hi)
      rw [List.drop_eq_getElem_cons hi] at p'
      refine .inr ⟨jg, fun H2 => ∃ W2 h2, W2.H = H2 ∧ Ext (W1.add D (.dK [])) W2 ∧ Sim K W2 h2 ∧ Pst K c (CV K Q) W1 (dcS g cd ke ve (wipeM s vs) h1.length (its.drop (i + 1)) h2),
        fun H2 w => ⟨its.length - (i + 1), by omega, rfl, by omega, w⟩, fun v H2 y => ?_⟩
      obtain ⟨W2, rfl, x2, S2, r2⟩ := jy v H2 y
      unfold dcS at p'
      cases hg : g its[i] (wipeM s vs) with
      | none =>
        rw [hg] at p'
        exact p'.elim
      | some s1 =>
        rw [hg] at p'
        have x02 := (xa.trans x').trans x2
        refine ho W2 (wipeM s vs) s1 _ its[i] v _ (rs1.mono x02) r2 hg fun σ2 rs2 hw => ⟨hw.trans wipe_wipe, W2, h', s1, rfl, S2, rs2, ?_⟩
        refine Pst.bnd2 p' x02 fun W3 h3 b x3 S3 p3 => ?_
        cases b with
        | false => exact ⟨W3, h3, rfl, (x'.trans x2).trans x3, S3, p3⟩
        | true =>
          refine iteT (B := ∃ W2 h2, W2.H = W3.H ∧ Ext (W1.add D (.dK [])) W2 ∧ Sim K W2 h2 ∧ Pst K c (CV K Q) W1 (dcS g cd ke ve (wipeM s vs) h1.length (its.drop (i + 1)) h2)) ⟨W3, h3, s1, rfl, S3, rs2.mono x3, ?_⟩
          rw [if_pos rfl] at p3
          refine Pst.bnd2 p3 (x02.trans x3) fun W4 h4 ky x4 S4 p4 u r4 => ?_
          refine ⟨W4, h4, s1, rfl, S4, (rs2.mono x3).mono x4, ?_⟩
          refine Pst.bnd2 p4 ((x02.trans x3).trans x4) fun W5 h5 z x5 S5 p5 w r5 => ?_
          cases hk : keyOf ky with
          | none =>
            rw [hk] at p5
            exact p5.elim
          | some k =>
            rw [hk] at p5
            cases hl : h5[h1.length]? with
            | none =>
              rw [hl] at p5
              exact p5.elim
            | some ob =>
              rw [hl] at p5
              cases ob <;> first | exact p5.elim | skip
              rename_i kvs
              have x15 : Ext (W1.add D (.dK [])) W5 := (((x'.trans x2).trans x3).trans x4).trans x5
              obtain ⟨a, ea⟩ := S5.live _ _ hl (by intro z; cases z)
              obtain rfl : a = D := isD W5 x15 a ea
              obtain ⟨o2, e2, ro⟩ := S5.obj _ a ea
              rw [hl] at e2
              cases e2
              obtain ⟨kws, e3, tt⟩ := ro
              dsimp only at p5
              by_cases hlm : kvs.length < lim
              · rw [if_pos hlm] at p5
                have xw : Ext W5 (W5.wr a (.dK (putK kws k w))) := Ext.wr S5 ea
                refine ⟨kws, k, key_V r4 hk |>.trans rfl, e3, Nat.lt_of_lt_of_le (by rw [← tt.length]; exact hlm) (lim_line (Nat.le_refl _)), W5.wr a (.dK (putK kws k w)), _, rfl, x15.trans xw, S5.wr (m := .dK (putM kvs k z)) ea ⟨_, upd_same, (tt.put r5).mono xw⟩, p5⟩
              · rw [if_neg hlm] at p5
                exact p5.elim
    · have e0 : its.drop i = [] := List.drop_eq_nil_of_le (by omega)
      rw [e0] at p'
      refine .inl ⟨j2 (by omega), p' W' (xa.trans x') S' (.ref D) (.ref (Nat.lt_of_lt_of_le ln x'.le) (isD W' x'))⟩
theorem em_dc {kx vx tg iter : Expr} {ifs : List Expr} {scope : Scope} {own : List (Str × Nat)} {pos : Pos} {mi : MM MIter} {t : TG} {g : MV → MS → Option MS} {cd : MM Bool} {ke ve : ME} (ho : TgC X.K t g (own.map (·.2)))
    (h : PE X (.DictComp kx vx [⟨tg, iter, ifs, 0⟩] scope pos) (tDc (tMI X.K c mi) t (tMB X.K c cd) (tM X.K c ke) (tM X.K c ve) (own.map (·.2)))) : EM X c (.DictComp kx vx [⟨tg, iter, ifs, 0⟩] scope pos) (dcM mi (own.map (·.2)) g cd ke ve) := pe_wk h fun _ _ _ q => dc_of ho q
end
end Mi
set_option maxHeartbeats 2000000
namespace Mi
open PySem L2
@[simp ↓] def ltAF (x y : MV) (h : MH) : Res MV := match x, y with
  | .int i, .int j => ok (.bl (decide (i < j))) h
  | .tup xs, .tup ys => match intsOf xs, intsOf ys with
    | some a, some b => ok (.bl (HT.lexLt a b)) h
    | _, _ => none
  | _, _ => none
section
variable {X : Cx} {c : XC} {K : PySem.W.Frag}
end
end Mi
set_option maxHeartbeats 2000000
namespace Mi
open PySem L2
def liS (g : MV → MS → Option MS) (cd : MM Bool) (el : ME) (s0 : MS) (l : Nat) (k : MH → Res MV) : List MV → MH → Res MV
  | [], h => k h
  | x :: xs, h => match g x s0 with
    | none => none
    | some s1 => (cd s1 h).bnd fun b h1 => if b = true then (el s1 h1).bnd fun y h2 => match h2[l]? with
        | some (.lst zs) => if zs.length < lim then liS g cd el s0 l k xs (h2.set l (.lst (zs ++ [y]))) else none
        | _ => none
      else liS g cd el s0 l k xs h1
def lc2S (g : MV → MS → Option MS) (cd : MM Bool) (mi1 : MM MIter) (vs1 : List Nat) (g1 : MV → MS → Option MS) (cd1 : MM Bool) (el : ME) (s0 : MS) (l : Nat) : List MV → MH → Res MV
  | [], h => ok (.ref l) h
  | x :: xs, h => match g x s0 with
    | none => none
    | some s1 => (cd s1 h).bnd fun b h1 => if b = true then (mi1 s1 h1).bnd fun it h2 => (match it with
      | .st its => liS g1 cd1 el (wipeM s1 vs1) l (lc2S g cd mi1 vs1 g1 cd1 el s0 l xs) its h2
      | _ => none) else lc2S g cd mi1 vs1 g1 cd1 el s0 l xs h1
@[simp ↓] def lc2M (mi : MM MIter) (vs : List Nat) (g : MV → MS → Option MS) (cd : MM Bool) (mi1 : MM MIter) (vs1 : List Nat) (g1 : MV → MS → Option MS) (cd1 : MM Bool) (el : ME) : ME := fun s h => (mi s h).bnd fun it h1 => match it with
  | .st its => lc2S g cd mi1 vs1 g1 cd1 el (wipeM s vs) h1.length its (h1 ++ [.lst []])
  | _ => none
section
variable {X : Cx} {c : XC}
@[simp ↓] def unpL (is : List Nat) : MV → MS → Option MS := fun x s => match x with
  | .fls xs => putAll is xs s
  | _ => none
@[simp ↓] def bitsM (m : ME) : ME := fun s h => (m s h).bnd fun x h1 => match x with
  | .int i => ok (.int (Builtin.Int.intBits i : Nat)) h1
  | _ => none
end
end Mi
set_option maxHeartbeats 2000000
namespace Mi
open PySem L2
theorem run_nat {n : Nat} : runOf 0 n = (List.range n).map fun (i : Nat) => MV.int (i : Int) := by
  unfold runOf
  exact List.map_congr_left fun i _ => by rw [Int.zero_add]
end Mi
namespace Mi
theorem Mat.push {h : MH} {R lo : Nat} {rows : List (List MV)} {rs : List Nat} (M : Mat h R rows lo rs) {ys : List MV} (hlo : lo ≤ h.length) : Mat ((h ++ [MO.lst ys]).set R (MO.lst (rs.map MV.ref ++ [MV.ref h.length]))) R (rows ++ [ys]) lo (rs ++ [h.length]) := by
  have new : ∀ r ∈ rs, r < h.length := fun r hr => by
    obtain ⟨i, hi⟩ := List.getElem?_of_mem hr
    obtain ⟨xs, hx⟩ : ∃ xs, rows[i]? = some xs := ⟨_, List.getElem?_eq_getElem (by rw [← M.len]; exact (List.getElem?_eq_some_iff.mp hi).1)⟩
    exact at_len (M.row i r xs hi hx)
  have nR : R ≠ h.length := Nat.ne_of_lt (at_len M.top)
  have nin : h.length ∉ rs := fun z => Nat.lt_irrefl _ (new _ z)
  refine ⟨?_, by rw [List.length_append, List.length_append, M.len]; rfl, ?_, fun z => ?_, M.loR, fun r hr => ?_, fun k r zs hr hz => ?_⟩
  · rw [get_set (get_app_left M.top), List.map_append]
    rfl
  · refine List.nodup_append.mpr ⟨M.nd, List.nodup_cons.mpr ⟨(fun z => nomatch z), List.nodup_nil⟩, fun a ha b hb e => ?_⟩
    obtain rfl := List.mem_singleton.mp hb
    exact nin (e ▸ ha)
  · rcases List.mem_append.mp z with z | z
    · exact M.no z
    · exact nR (List.mem_singleton.mp z)
  · rcases List.mem_append.mp hr with z | z
    · exact M.lor r z
    · rw [List.mem_singleton.mp z]
      exact hlo
  · by_cases hk : k < rs.length
    · rw [List.getElem?_append_left hk] at hr
      rw [List.getElem?_append_left (by rw [← M.len]; exact hk)] at hz
      exact get_set_ne (get_app_left (M.row k r zs hr hz)) fun z => M.no (by rw [← z]; exact List.mem_of_getElem? hr)
    · have e : k = rs.length := by
        have := (List.getElem?_eq_some_iff.mp hr).1
        rw [List.length_append] at this
        have t : k < rs.length + 1 := this
        omega
      subst e
      rw [List.getElem?_append_right (Nat.le_refl _), Nat.sub_self] at hr
      rw [List.getElem?_append_right (by rw [M.len]; exact Nat.le_refl _), M.len, Nat.sub_self] at hz
      cases hr
      cases hz
      exact get_set_ne get_app (Ne.symm nR)
end Mi
set_option maxHeartbeats 2000000
namespace Mi
open PySem L2
@[simp ↓] def insF (x : MV) (ys : List MV) (h : MH) : Res MV := match x, ys with
  | .ref l, [.int i, y] => match h[l]? with
    | some (.lst xs) => if xs.length < lim ∧ 0 ≤ i ∧ i ≤ 1000000 then ok .non (h.set l (.lst (xs.take i.toNat ++ [y] ++ xs.drop i.toNat))) else none
    | _ => none
  | _, _ => none
def inDB (h : MH) (x y : MV) : Option Bool := match pyOf x, (seqOf h y).bind pysOf with
  | some d, some ds => if SeqAt.shaped d = true ∧ SeqAt.shaped (.list ds) = true then some (ds.any fun z => PyData.eqv z d) else none
  | _, _ => none
@[simp ↓] def inDF (x y : MV) (h : MH) : Res MV := match inDB h x y with
  | some b => ok (.bl b) h
  | none => none
@[simp ↓] def ninDF (x y : MV) (h : MH) : Res MV := match inDB h x y with
  | some b => ok (.bl (!b)) h
  | none => none
section
variable {X : Cx} {c : XC} {K : PySem.W.Frag} {W : Wd}
end
end Mi
set_option maxHeartbeats 2000000
namespace Mi
open PySem L2
@[simp ↓] def callX (f : MF) (ds : List MV) (a : MM (List MV)) : ME := fun s h => (a s h).bnd fun xs h1 => f (xs ++ ds) h1
@[simp ↓] def callKX (f : MF) (n k : Nat) (is : List Nat) (ds : List MV) (a kw : MM (List MV)) : ME := fun s h => (a s h).bnd fun xs h1 => (kw s h1).bnd fun zs h2 => if xs.length = n ∧ zs.length = k then f (pick is (xs ++ zs ++ ds)) h2 else none
section
variable {X : Cx} {c : XC} {E : XK} {k : Nat} {f : Addr} {fd : FuncData} {ps : List Str} {ds : List Value} {dvs : List V} {dms : List MV} {x : Str} {p pos : Pos} {e : Expr} {es : List Expr} {m : MM (List MV)} {np : Nat} {fM : MF}
end
section
variable {P : Program} {w : World} {K : PySem.W.Frag} {mg : Str → Option Value} {base : Heap}
end
@[simp ↓] def raiseS (cls : Str) (fns : List Str) (a : MM (List MV)) : MT := fun s h => bndS (a s h) fun xs h1 => if xs.length = fns.length then some (.ex ⟨cls, fns.zip xs⟩ h1) else none
section
variable {X : Cx} {E : XK} {e : Expr} {pos : Pos} {cls : Str} {C : Addr}
end
end Mi
set_option maxHeartbeats 2000000
namespace Mi
open PySem L2
@[simp ↓] def wipeR (i : Nat) : Option OutS → Option OutS
  | some (.nx s h) => some (.nx (s.set i none) h)
  | some (.ret x h) => some (.ret x h)
  | some (.brk s h) => some (.brk (s.set i none) h)
  | some (.cnt s h) => some (.cnt (s.set i none) h)
  | _ => none
@[simp ↓] def tryO (body : MT) (tab : List (Str × Bool)) (n : Nat) (suite : MT) : MT := fun s h => match body s h with
  | some (.ex e h1) => match tab.lookup e.cls with
    | some true => match suite (List.replicate n none) h1 with
      | some (.ex _ _) => none
      | r => r
    | some false => some (.ex e h1)
    | none => none
  | r => r
section
variable {X : Cx} {E : XK} {body suite : List Stmt} {b₀ : Stmt} {np pos pos' : Pos} {x y : Str} {cv : Value} {i : Nat} {tab : List (Str × Bool)} {mb : MT}
end
end Mi
set_option maxHeartbeats 2000000
namespace Mi
open PySem L2
@[simp ↓] def xfM (i : Nat) (a : Addr) (d : Option Addr) (f : Str) : ME := fun s h => match slot s i with
  | some (.exc a' d' fns xs) => if a' = a ∧ d' = d then (match (fns.zip xs).lookup f with
    | some v => ok v h
    | none => none) else none
  | _ => none
@[simp ↓] def optB (o : Option Bool) (h : MH) : Res MV := match o with
  | some b => ok (.bl b) h
  | none => none
@[simp ↓] def isE (i : Nat) (a : Addr) (d : Option Addr) (o : Option Bool) : ME := fun s h => match slot s i with
  | some (.exc a' d' fns xs) => if a' = a ∧ d' = d then optB o h else none
  | _ => none
structure KitE (K : PySem.W.Frag) (C : Addr) : Prop where
  cl : (PySem.W.clsIn K C).isSome = true
  ga : PySem.W.findIn K (.ref C) "__getattribute__" = some (some (.builtin "BaseException.__getattribute__"))
  gg : PySem.W.findIn K (.ref C) "__getattr__" = some none
  sb : PySem.W.subIn K (.ref C) (.type "BaseException") = some true
  ca : PySem.W.findIn K (.ref C) "__class__" = some (some (.builtin "object.__class__"))
  sg : PySem.W.specialIn K (.builtin "object.__class__") "__get__" = some (some (.builtin "getset_descriptor.__get__"))
  tk : PySem.W.takesIn K (.builtin "object.__class__") = some true
  mo : PySem.W.mroIn K C (.type "object") = some true
section
variable {X : Cx} {c : XC} {a C : Addr} {oe : Obj} {d : Option Addr} {pn : List (Addr × Obj)} {i : Nat} {y : Str} {pos p p2 p3 : Pos}
end
end Mi
set_option maxHeartbeats 4000000
namespace Mi
open PySem L2 PySem.W PySem.Calls PyProof.Rows PySem.HandSPX
def supS (f : Str) : Scope where
  kind := .function
  names := [(Str.ofString "self", .local), (f, .local), (Str.ofString "__class__", .free), (Str.ofString "super", .globalImplicit)]
  isGenerator := false
  isCoroutine := false
  more := []
structure SupTx (f : Str) (ist : Stmt) : Prop where
  body : ∃ msg j p0 p1 p2 p3 p4 p5 q1 q2 q3 q4, defBody ist = [.Expr (.Call (.Attribute (.Call (.Name "super" p0) [] [] p1) "__init__" p2) [.Constant (.str msg) j p3] [] p4) p5, .Assign [.Attribute (.Name "self" q1) f q2] (.Name f q3) q4] ∧
    ∃ pl : Sem Bool, ∀ (qual : Str) (L a : Addr) (cd : Value) (cc : Addr), eval (.Call (.Attribute (.Call (.Name "super" p0) [] [] p1) "__init__" p2) [.Constant (.str msg) j p3] [] p4) (ksEnv qual (supS f) L a cd cc) = (do
      let ov ← attributeBase (.Call (.Name "super" p0) [] [] p1) "__init__" (ksEnv qual (supS f) L a cd cc) (eval (.Call (.Name "super" p0) [] [] p1) (ksEnv qual (supS f) L a cd cc))
      standAt p2.atName
      let (fx, first) ← holding [ov] (getMethod ov "__init__" pl)
      callWith p4 fx first (backTo p4 (starEach [.Constant (.str msg) j p3] (ksEnv qual (supS f) L a cd cc))) [])
  head : ∃ ar, ((defArgs ist).posonlyargs ++ (defArgs ist).args).head? = some ar ∧ ar.arg = "self"
  bind : ∀ (s : Shared) (qual : Str) (kV doc pm : Value) (an : Option Addr) (cd ct : Value) (cc : Addr) (x v : Value), BindsTo s (ksFn "__init__" qual (defArgs ist) (defBody ist) (supS f) .none kV doc pm an cd ct cc) ⟨[x, v], []⟩ [("self", x), (f, v)]
  self : (supS f).names.lookup ("self" : Str) = some .local
  fld : (supS f).names.lookup f = some .local
  cls : (supS f).names.lookup ("__class__" : Str) = some .free
  sup : (supS f).names.lookup ("super" : Str) = some .globalImplicit
  nocell : ∀ x ∈ (supS f).names, x.2 ≠ .cell
  ne : f ≠ "self"
  nd : (f == ("__debug__" : Str)) = false
structure SupTxt (P : Program) (K : Frag) (mg : Str → Option Value) (cls qual f : Str) (ist : Stmt) (C fI : Addr) : Prop where
  gC : mg cls = some (.ref C)
  nsup : mg "super" = none
  cl : ∃ nm q N bs bm sn sub ab col dd k0 k1 k2 k3 k5, K.lookup C = some (excClassObj nm q C N bs bm true sn sub ab col dd k0 k1 k2 k3 k5 "ValueError.__new__") ∧ refsVE bm = true
  xi : excInitIn K C veTail "ValueError.__new__" = true
  sa : findIn K (.ref C) "__setattr__" = some (some (.builtin "object.__setattr__"))
  noN : findIn K (.ref C) f = some none
  iC : findIn K (.ref C) "__init__" = some (some (.ref fI))
  tI : typeIn K (.ref fI) = some (.type "function")
  kC : keepIn K (.ref C) = true
  exC : subIn K (.ref C) (.type "BaseException") = some true
  veC : subIn K (.ref C) (.type "ValueError") = some true
  tyC : typeIn K (.ref C) = some (.type "type")
  su : ks_superIn K C C "__init__" = some (some (.builtin "ValueError.__init__"))
  op : nsIn K cStatics "thirdparty.any" = some none
  mo : mroIn K C (.ref C) = some true
  fn : ∃ oc od kV doc pm an cda ct osl cc, K.lookup fI = some ⟨oc, od, .func (ksFn "__init__" qual (defArgs ist) (defBody ist) (supS f) .none kV doc pm an (.ref cda) ct cc), osl⟩ ∧ codeIn K (.ref cda) qual = true ∧
    (∃ ccl cdd vs ccs file tf, K.lookup cda = some ⟨ccl, cdd, .fields vs, ccs⟩ ∧ vs[2]? = some (.str file tf) ∧ ((P.main.file : Str) == file) = true) ∧ ∃ l ld lsl, K.lookup cc = some ⟨l, ld, .cell (some (.ref C)), lsl⟩
  top : (P.main.scope.names.lookup ("super" : Str)).isSome = false
structure SupMade (h h' : Heap) (e C d : Addr) (f : Str) (v : Value) : Prop where
  keep : ∀ b o, h.get? b = some o → h'.get? b = some o
  new : h.objs.size ≤ e
  obj : ∃ t1 : Addr, h'.get? e = some { cls := .ref C, dict := some d, data := .fields #[.ref t1, .none, .none, .none, .bool false, .none] }
  dbig : h.objs.size ≤ d
  dne : d ≠ e
  ns : h'.Ns1 d (fun y => if y = f then some v else none)
section
variable {P : Program} {w : World} {A : Around} {R : Result → Shared → Prop} {s : Shared} {K : Frag} {mg : Str → Option Value} {cls qual f : Str} {ist : Stmt} {C fI : Addr}
end
section
variable {X : Cx} {cls qual f : Str} {ist : Stmt} {C fI : Addr} {a : Expr} {ta : TA} {p pos : Pos} {k : Nat}
end
end Mi
set_option maxHeartbeats 2000000
namespace Mi
open PySem L2
structure ErrC (K : PySem.W.Frag) (mg : Str → Option Value) (nm : Str) (C : Addr) : Prop where
  g : mg nm = some (.ref C)
  kp : PySem.W.keepIn K (.ref C) = true
  cl : PySem.W.isClsIn K C = true
  ty : PySem.W.typeIn K (.ref C) = some (.type "type")
  sb : PySem.W.subIn K (.ref C) (.type "BaseException") = some true
  ve : PySem.W.subIn K (.ref C) (.type "ValueError") = some true
  rf : PySem.W.subIn K (.ref C) (.ref C) = some true
  ga : PySem.W.findIn K (.ref C) "__getattribute__" = some (some (.builtin "BaseException.__getattribute__"))
  gg : PySem.W.findIn K (.ref C) "__getattr__" = some none
  ca : PySem.W.findIn K (.ref C) "__class__" = some (some (.builtin "object.__class__"))
  sg : PySem.W.specialIn K (.builtin "object.__class__") "__get__" = some (some (.builtin "getset_descriptor.__get__"))
  tk : PySem.W.takesIn K (.builtin "object.__class__") = some true
  mo : PySem.W.mroIn K C (.type "object") = some true
  hd : PySem.W.hasDictIn K C = true
section
variable {K : PySem.W.Frag} {mg : Str → Option Value} {nm nm2 : Str} {C D : Addr} {b : Bool}
theorem ErrC.kcls (E : ErrC K mg nm C) (F : ErrC K mg nm2 D) (s : PySem.W.subIn K (.ref C) (.ref D) = some b) : PySem.W.kitCls K (.ref C) (.ref D) = some b := by
  show (if ((PySem.W.clsIn K D).isSome && PySem.W.typeIn K (.ref D) == some (.type "type")) = true then PySem.W.subIn K (.ref C) (.ref D) else none) = some b
  have h : (PySem.W.clsIn K D).isSome = true := F.cl
  rw [h, F.ty]
  exact s
theorem ErrC.one (E : ErrC K mg nm C) (F : ErrC K mg nm2 D) (s : PySem.W.subIn K (.ref C) (.ref D) = some b) : PySem.W.kitOne K (.ref C) (.ref D) = some b := by
  unfold PySem.W.kitOne
  by_cases z : ((Value.ref C : Value) == .ref D) = true
  · rw [if_pos z]
    have e : C = D := Value.ref.inj (beq_iff_eq.mp z)
    subst e
    rw [E.rf] at s
    exact s
  · rw [if_neg z]
    exact E.kcls F s
end
end Mi
set_option maxHeartbeats 2000000
namespace Mi
open PySem L2
section
variable {X : Cx} {pins : List (Addr × Obj)} {σ : St} {H : Hp} {s : Shared} {a C : Addr} {oe : Obj} {d : Option Addr}
end
@[simp ↓] def isK (m : MM (List MV)) (n : Nat) (b : Bool) : ME := fun s h => (m s h).bnd fun xs h1 => if xs.length = n then ok (.bl b) h1 else none
section
variable {X : Cx} {c : XC} {C : Addr} {mk T : Expr} {t : St → Hp → XK → Prop} {tT : TE} {p pos : Pos}
end
end Mi
set_option maxHeartbeats 2000000
namespace Mi
open PySem L2 PySem.Spec PyProof.Rows
abbrev Sui := Addr → Value → Option Addr → TS
inductive HdsN (X : Cx) : List ExceptHandler → List (Value × Nat × Sui) → Prop
  | nil : HdsN X [] []
  | cons {x n : Str} {c : Value} {i : Nat} {ts : Sui} {b₀ : Stmt} {rest : List Stmt} {q1 q2 : Pos} {hds : List ExceptHandler} {l : List (Value × Nat × Sui)} (hc : Names X x c) (hi : X.N[i]? = some n) (hl : X.env.kindOf n = some .local)
      (hsu : ∀ (a : Addr) (oe : Obj) (k : Value) (d : Option Addr) (pn : List (Addr × Obj)), Zc k d oe → (∃ vs, oe.data = .fields vs) → PSs (X.suite a ((a, oe) :: pn)) (b₀ :: rest) (ts a k d)) (r : HdsN X hds l) :
      HdsN X (.ExceptHandler (some (.Name x q1)) (some n) (b₀ :: rest) q2 :: hds) ((c, i, ts) :: l)
section
variable {X : Cx} {body : List Stmt} {h₀ : ExceptHandler} {hds : List ExceptHandler} {l : List (Value × Nat × Sui)} {pos : Pos} {tb : WX → TS} {Wout : WX}
end
end Mi
set_option maxHeartbeats 2000000
namespace Mi
open PySem L2
abbrev Cls := List (Str × Bool) × Nat × (Str → Addr → Option Addr → MT)
def suiT (K : PySem.W.Frag) (mg : Str → Option Value) (tab : List (Str × Bool)) (ms : Str → Addr → Option Addr → MT) : Sui := fun a k d D σ H => ∃ nm, tab.lookup nm = some true ∧ mg nm = some k ∧ tS K ⟨mg, fun _ _ _ => False⟩ (ms nm a d) D σ H
inductive HdsM (X : Cx) : List ExceptHandler → List Cls → List (Value × Nat × Sui) → Prop
  | nil : HdsM X [] [] []
  | cons {x y : Str} {cv : Value} {i : Nat} {tab : List (Str × Bool)} {ms : Str → Addr → Option Addr → MT} {b₀ : Stmt} {rest : List Stmt} {q1 q2 : Pos} {hds : List ExceptHandler} {cs : List Cls} {l : List (Value × Nat × Sui)} (hc : Names X x cv) (hi : X.N[i]? = some y) (hl : X.env.kindOf y = some .local)
      (htab : ∀ nm b, tab.lookup nm = some b → ∀ C, X.mg nm = some C → PySem.W.exmOne X.K C cv = some b)
      (hsu : ∀ nm, tab.lookup nm = some true → ∀ C, X.mg nm = some C → ∀ (a : Addr) (oe : Obj) (d : Option Addr) (pn : List (Addr × Obj)), Zc C d oe → (∃ vs, oe.data = .fields vs) → SsM (X.suite a ((a, oe) :: pn)) ⟨X.mg, fun _ _ _ => False⟩ (b₀ :: rest) (ms nm a d)) (r : HdsM X hds cs l) :
      HdsM X (.ExceptHandler (some (.Name x q1)) (some y) (b₀ :: rest) q2 :: hds) ((tab, i, ms) :: cs) ((cv, i, suiT X.K X.mg tab ms) :: l)
section
variable {X : Cx} {E : XK} {body : List Stmt} {h₀ : ExceptHandler} {hds : List ExceptHandler} {pos : Pos} {mb : MT} {cs : List Cls} {l : List (Value × Nat × Sui)}
end
end Mi
set_option maxHeartbeats 2000000
namespace Mi
open PySem L2
mutual
/-- no place from n on in it -/
def cloV (n : Nat) : MV → Bool
  | .ref l => decide (l < n)
  | .tup xs => cloL n xs
  | .ktp xs => cloL n xs
  | .fls xs => cloL n xs
  | .frz xs => cloL n xs
  | .exc _ _ _ xs => cloL n xs
  | .fdt _ xs => cloL n xs
  | .non => true
  | .bl _ => true
  | .int _ => true
  | .str _ => true
def cloL (n : Nat) : List MV → Bool
  | [] => true
  | x :: xs => cloV n x && cloL n xs
end
def cloO (n : Nat) : MO → Bool
  | .dead => true
  | .lst xs => cloL n xs
  | .dK kvs => cloL n (kvs.map (·.2))
  | .dT kvs => cloL n (kvs.map (·.2))
  | .ins _ kvs => cloL n (kvs.map (·.2))
def cloS (n : Nat) : MS → Bool
  | [] => true
  | none :: s => cloS n s
  | some x :: s => cloV n x && cloS n s
def CutOk (h h' : MH) : Prop := h.length ≤ h'.length ∧ ∀ i, i < h.length → h'[i]? = h[i]? ∨ ∃ o, h'[i]? = some o ∧ cloO h.length o = true
open Classical in
noncomputable def cutF (f : MF) : MF := fun xs h => match f xs h with
  | some (.ok v h') => if cloV h.length v = true ∧ CutOk h h' then ok v (h'.take h.length) else ok v h'
  | r => r
def Wd.cut (W : Wd) (n : Nat) : Wd := ⟨fun l => if l < n then W.f l else none, n, W.H, W.hid⟩
section
variable {K : PySem.W.Frag} {W W0 : Wd}
theorem Wd.cut_some {n l : Nat} {a : Addr} (e : (W.cut n).f l = some a) : l < n ∧ W.f l = some a := by
  have e' : (if l < n then W.f l else none) = some a := e
  by_cases h : l < n
  · rw [if_pos h] at e'
    exact ⟨h, e'⟩
  · rw [if_neg h] at e'
    cases e'
theorem Stab.cut {n : Nat} {p : Addr} (s : Stab W p) : Stab (W.cut n) p := ⟨fun l e => s.1 l (Wd.cut_some e).2, s.2⟩
mutual
theorem RV.cutp {n : Nat} : ∀ {m : MV} {v : V}, cloV n m = true → RV K W m v → RV K (W.cut n) m v
  | _, _, _, .non => .non
  | _, _, _, .bl b => .bl b
  | _, _, _, .int i => .int i
  | _, _, _, .str s => .str s
  | _, _, q, .ref lt e => .ref (of_decide_eq_true q) fun b hb => e b (Wd.cut_some hb).2
  | _, _, q, .tup s e r => .tup s.cut e (RVs.cutp q r)
  | _, _, q, .tupK e r => .tupK e (RVs.cutp q r)
  | _, _, q, .fls s e r => .fls s.cut e (RVs.cutp q r)
  | _, _, q, .frz s e r => .frz s.cut e (RVs.cutp q r)
  | _, _, q, .frzK e r => .frzK e (RVs.cutp q r)
  | _, _, _, .exc0 => .exc0
  | _, _, q, .excD s e r => .excD s.cut e (RVs.cutp q r)
  | _, _, q, .fdt s e r => .fdt s.cut e (RVs.cutp q r)
theorem RVs.cutp {n : Nat} : ∀ {ms : List MV} {vs : List V}, cloL n ms = true → RVs K W ms vs → RVs K (W.cut n) ms vs
  | _, _, _, .nil => .nil
  | _, _, q, .cons r t => by
    have q' : (cloV n _ && cloL n _) = true := q
    rw [Bool.and_eq_true] at q'
    exact .cons (RV.cutp q'.1 r) (RVs.cutp q'.2 t)
end
mutual
theorem RV.clo : ∀ {m : MV} {v : V}, RV K W m v → cloV W.n m = true
  | _, _, .non => rfl
  | _, _, .bl b => rfl
  | _, _, .int i => rfl
  | _, _, .str s => rfl
  | _, _, .ref lt e => decide_eq_true lt
  | _, _, .tup s e r => RVs.clo r
  | _, _, .tupK e r => RVs.clo r
  | _, _, .fls s e r => RVs.clo r
  | _, _, .frz s e r => RVs.clo r
  | _, _, .frzK e r => RVs.clo r
  | _, _, .exc0 => rfl
  | _, _, .excD s e r => RVs.clo r
  | _, _, .fdt s e r => RVs.clo r
theorem RVs.clo : ∀ {ms : List MV} {vs : List V}, RVs K W ms vs → cloL W.n ms = true
  | _, _, .nil => rfl
  | _, _, .cons r t => by
    show (cloV W.n _ && cloL W.n _) = true
    rw [RV.clo r, RVs.clo t]
    rfl
end
theorem RKV.clo {κ : Type} : ∀ {ms : List (κ × MV)} {vs : List (κ × V)}, RKV K W ms vs → cloL W.n (ms.map (·.2)) = true
  | _, _, .nil => rfl
  | _, _, .cons r t => by
    show (cloV W.n _ && cloL W.n _) = true
    rw [r.clo, RKV.clo t]
    rfl
theorem RKV.cutp {κ : Type} {n : Nat} : ∀ {ms : List (κ × MV)} {vs : List (κ × V)}, cloL n (ms.map (·.2)) = true → RKV K W ms vs → RKV K (W.cut n) ms vs
  | _, _, _, .nil => .nil
  | _, _, q, .cons r t => by
    have q' : (cloV n _ && cloL n _) = true := q
    rw [Bool.and_eq_true] at q'
    exact .cons (RV.cutp q'.1 r) (RKV.cutp q'.2 t)
theorem RO.clo {o : MO} {a : Addr} (r : RO K W o a) : cloO W.n o = true := by
  cases o with
  | dead => exact r.elim
  | lst xs =>
    obtain ⟨vs, q, t⟩ := r
    exact t.clo
  | dK kvs =>
    obtain ⟨vs, q, t⟩ := r
    exact t.clo
  | dT kvs =>
    obtain ⟨vs, q, t⟩ := r
    exact t.clo
  | ins cn kvs =>
    obtain ⟨C, dx, vs, hC, q, t⟩ := r
    exact t.clo
theorem RO.cut {n : Nat} {o : MO} {a : Addr} (c : cloO n o = true) (r : RO K W o a) : RO K (W.cut n) o a := by
  cases o with
  | dead => exact r.elim
  | lst xs =>
    obtain ⟨vs, q, t⟩ := r
    exact ⟨vs, q, t.cutp c⟩
  | dK kvs =>
    obtain ⟨vs, q, t⟩ := r
    exact ⟨vs, q, t.cutp c⟩
  | dT kvs =>
    obtain ⟨vs, q, t⟩ := r
    exact ⟨vs, q, t.cutp c⟩
  | ins cn kvs =>
    obtain ⟨C, dx, vs, hC, q, t⟩ := r
    exact ⟨C, dx, vs, hC, q, t.cutp c⟩
theorem cut_clo {h h' : MH} (S0 : Sim K W0 h) (S : Sim K W h') (c : CutOk h h') {l : Nat} {o : MO} (hl : l < h.length) (e : h'[l]? = some o) : cloO h.length o = true := by
  rcases c.2 l hl with q | ⟨u, q, z⟩
  · rw [e] at q
    cases o with
    | dead => rfl
    | lst xs =>
      obtain ⟨a0, e0⟩ := S0.live l _ q.symm (by intro z; cases z)
      obtain ⟨u, e1, r⟩ := S0.obj l a0 e0
      rw [← q] at e1
      cases e1
      rw [← S0.n]
      exact r.clo
    | dK xs =>
      obtain ⟨a0, e0⟩ := S0.live l _ q.symm (by intro z; cases z)
      obtain ⟨u, e1, r⟩ := S0.obj l a0 e0
      rw [← q] at e1
      cases e1
      rw [← S0.n]
      exact r.clo
    | dT xs =>
      obtain ⟨a0, e0⟩ := S0.live l _ q.symm (by intro z; cases z)
      obtain ⟨u, e1, r⟩ := S0.obj l a0 e0
      rw [← q] at e1
      cases e1
      rw [← S0.n]
      exact r.clo
    | ins cn xs =>
      obtain ⟨a0, e0⟩ := S0.live l _ q.symm (by intro z; cases z)
      obtain ⟨u, e1, r⟩ := S0.obj l a0 e0
      rw [← q] at e1
      cases e1
      rw [← S0.n]
      exact r.clo
  · rw [e] at q
    cases q
    exact z
theorem Sim.cut {h h' : MH} (S0 : Sim K W0 h) (S : Sim K W h') (c : CutOk h h') : Sim K (W.cut h.length) (h'.take h.length) where
  n := by
    rw [List.length_take, Nat.min_eq_left c.1]
    rfl
  lt := fun l a e => by
    rw [List.length_take, Nat.min_eq_left c.1]
    exact (Wd.cut_some e).1
  inj := fun i j a ei ej => S.inj i j a (Wd.cut_some ei).2 (Wd.cut_some ej).2
  obj := fun l a e => by
    obtain ⟨hl, e1⟩ := Wd.cut_some e
    obtain ⟨o, e2, r⟩ := S.obj l a e1
    exact ⟨o, by rw [List.getElem?_take_of_lt hl]; exact e2, r.cut (cut_clo S0 S c hl e2)⟩
  live := fun l o e d => by
    have hl : l < h.length := by
      have := (List.getElem?_eq_some_iff.mp e).1
      rw [List.length_take] at this
      omega
    rw [List.getElem?_take_of_lt hl] at e
    obtain ⟨a, ea⟩ := S.live l o e d
    exact ⟨a, (if_pos hl).trans ea⟩
  nhid := fun l a e => S.nhid l a (Wd.cut_some e).2
  hids := S.hids
theorem Ext.cut {n : Nat} (x : Ext W0 W) (hn : W0.n = n) : Ext W0 (W.cut n) where
  le := by
    rw [hn]
    exact Nat.le_refl _
  agree := fun l hl => by
    rw [show (W.cut n).f l = W.f l from if_pos (hn ▸ hl)]
    exact x.agree l hl
  frame := fun p o s e => ⟨(x.frame p o s e).1, (x.frame p o s e).2.cut⟩
  hidf := fun p o s e => x.hidf p o s e
theorem cut_pst {c : XC} {Q : VK} {f : MF} {xs : List MV} {h : MH} (S0 : Sim K W0 h) (p : Pst K c (CV K Q) W0 (cutF f xs h)) : Pst K c (CV K Q) W0 (f xs h) := by
  unfold cutF at p
  cases hf : f xs h with
  | none =>
    rw [hf] at p
    exact p.elim
  | some r =>
    rw [hf] at p
    cases r with
    | ex e h' => exact p
    | ok v h' =>
      dsimp only at p
      by_cases q : cloV h.length v = true ∧ CutOk h h'
      · rw [if_pos q] at p
        exact fun W1 x1 S1 u r1 => p (W1.cut h.length) (x1.cut S0.n) (S0.cut S1 q.2) u (r1.cutp q.1)
      · rw [if_neg q] at p
        exact p
theorem cut_sp {mg : Str → Option Value} {np : Nat} {f : MF} : ∀ vs H Q E, spM K mg np (cutF f) vs H Q E → spM K mg np f vs H Q E := fun vs H Q E ⟨W, h, xs, e, S, r, hl, p⟩ => ⟨W, h, xs, e, S, r, hl, cut_pst S p⟩
theorem cut_len {np : Nat} {f : MF} (hf : ∀ (xs : List MV) (h : MH), (f xs h).isSome = true → xs.length = np) : ∀ (xs : List MV) (h : MH), (cutF f xs h).isSome = true → xs.length = np := fun xs h e => by
  refine hf xs h ?_
  unfold cutF at e
  cases q : f xs h with
  | none =>
    rw [q] at e
    cases e
  | some r => rfl
theorem RS.clr1 : ∀ {a : MS} {b : St} (i : Nat), RS K W a b → RS K W (a.set i none) b
  | _, _, _, .nil => .nil
  | _, _, 0, .no t => .no t
  | _, _, 0, .yes _ t => .no t
  | _, _, i + 1, .no t => .no (RS.clr1 i t)
  | _, _, i + 1, .yes q t => .yes q (RS.clr1 i t)
theorem RS.wip {a : MS} {b : St} (t : RS K W a b) : ∀ vs : List Nat, RS K W (wipeM a vs) b
  | [] => t
  | v :: vs => (RS.wip t vs).clr1 v
theorem RS.cut {n : Nat} : ∀ {a : MS} {b : St}, cloS n a = true → RS K W a b → RS K (W.cut n) a b
  | _, _, _, .nil => .nil
  | _, _, q, .no t => .no (RS.cut q t)
  | _, _, q, .yes r t => by
    have q' : (cloV n _ && cloS n _) = true := q
    rw [Bool.and_eq_true] at q'
    exact .yes (r.cutp q'.1) (RS.cut q'.2 t)
end
@[simp] theorem wipe_nil {s : MS} : wipeM s [] = s := rfl
@[simp] theorem wipe_cons {s : MS} {v : Nat} {vs : List Nat} : wipeM s (v :: vs) = (wipeM s vs).set v none := rfl
@[simp ↓] def preW (vs : List Nat) (m : MT) : MT := fun s h => m (wipeM s vs) h
@[simp ↓] def wipT (vs : List Nat) (m : MT) : MT := fun s h => match m s h with
  | some (.nx s1 h1) => some (.nx (wipeM s1 vs) h1)
  | some (.brk s1 h1) => some (.brk (wipeM s1 vs) h1)
  | some (.cnt s1 h1) => some (.cnt (wipeM s1 vs) h1)
  | r => r
open Classical in
noncomputable def cutT (m : MT) : MT := fun s h => match m s h with
  | some (.nx s1 h1) => if cloS h.length s1 = true ∧ CutOk h h1 then some (.nx s1 (h1.take h.length)) else some (.nx s1 h1)
  | some (.brk s1 h1) => if cloS h.length s1 = true ∧ CutOk h h1 then some (.brk s1 (h1.take h.length)) else some (.brk s1 h1)
  | some (.cnt s1 h1) => if cloS h.length s1 = true ∧ CutOk h h1 then some (.cnt s1 (h1.take h.length)) else some (.cnt s1 h1)
  | r => r
section
variable {X : Cx} {c : XC} {st : Stmt} {sts : List Stmt} {m : MT}
theorem s_pre {vs : List Nat} (h : SM X c st m) : SM X c st (preW vs m) := ps_wk h fun D σ H ⟨W, h, s, e, S, rs, p⟩ => ⟨W, h, wipeM s vs, e, S, rs.wip vs, p⟩
theorem ss_wip {vs : List Nat} (h : SsM X c sts m) : SsM X c sts (wipT vs m) := pss_wk h fun D σ H ⟨W, h, s, e, S, rs, p⟩ => by
  refine ⟨W, h, s, e, S, rs, ?_⟩
  unfold wipT at p
  cases q : m s h with
  | none =>
    rw [q] at p
    exact p.elim
  | some r =>
    rw [q] at p
    cases r with
    | nx s1 h1 => exact fun W1 σ1 x1 S1 rs1 => p W1 σ1 x1 S1 (rs1.wip vs)
    | brk s1 h1 => exact fun W1 σ1 x1 S1 rs1 => p W1 σ1 x1 S1 (rs1.wip vs)
    | cnt s1 h1 => exact fun W1 σ1 x1 S1 rs1 => p W1 σ1 x1 S1 (rs1.wip vs)
    | ret x h1 => exact p
    | ex x h1 => exact p
theorem ss_cut (h : SsM X c sts m) : SsM X c sts (cutT m) := pss_wk h fun D σ H ⟨W, h, s, e, S, rs, p⟩ => by
  refine ⟨W, h, s, e, S, rs, ?_⟩
  unfold cutT at p
  cases q : m s h with
  | none =>
    rw [q] at p
    exact p.elim
  | some r =>
    rw [q] at p
    cases r with
    | nx s1 h1 =>
      dsimp only at p
      by_cases z : cloS h.length s1 = true ∧ CutOk h h1
      · rw [if_pos z] at p
        exact fun W1 σ1 x1 S1 rs1 => p (W1.cut h.length) σ1 (x1.cut S.n) (S.cut S1 z.2) (rs1.cut z.1)
      · rw [if_neg z] at p
        exact p
    | brk s1 h1 =>
      dsimp only at p
      by_cases z : cloS h.length s1 = true ∧ CutOk h h1
      · rw [if_pos z] at p
        exact fun W1 σ1 x1 S1 rs1 => p (W1.cut h.length) σ1 (x1.cut S.n) (S.cut S1 z.2) (rs1.cut z.1)
      · rw [if_neg z] at p
        exact p
    | cnt s1 h1 =>
      dsimp only at p
      by_cases z : cloS h.length s1 = true ∧ CutOk h h1
      · rw [if_pos z] at p
        exact fun W1 σ1 x1 S1 rs1 => p (W1.cut h.length) σ1 (x1.cut S.n) (S.cut S1 z.2) (rs1.cut z.1)
      · rw [if_neg z] at p
        exact p
    | ret x h1 => exact p
    | ex x h1 => exact p
end
end Mi
set_option maxHeartbeats 2000000
namespace Mi
open PySem L2
abbrev nV (k : Nat) : MV := .int (k : Int)
abbrev prV (p : Nat × Nat) : MV := .tup [nV p.1, nV p.2]
theorem atI_n {α : Type} {xs : List α} {i : Nat} : atI xs (i : Int) = xs[i]? := by
  unfold atI
  by_cases h : i < xs.length
  · rw [ixN_nat h]
    rfl
  · have e : ixN xs.length (i : Int) = none := by
      unfold ixN
      rw [if_pos (by omega), if_neg (by omega)]
    rw [e, List.getElem?_eq_none (by omega)]
    rfl
theorem ixN_n {n j : Nat} : ixN n (j : Int) = if j < n then some j else none := by
  by_cases h : j < n
  · rw [ixN_nat h, if_pos h]
  · unfold ixN
    rw [if_pos (by omega), if_neg (by omega), if_neg h]
theorem ga {α : Type} {a t : List α} {n i : Nat} (h : a.length = n) : (a ++ t)[n + i]? = t[i]? := by
  subst h
  rw [List.getElem?_append_right (by omega)]
  congr 1
  omega
theorem ga0 {α : Type} {a t : List α} {n : Nat} (h : a.length = n) : (a ++ t)[n]? = t[0]? := ga (i := 0) h
theorem sa {α : Type} {a t : List α} {n i : Nat} {x : α} (h : a.length = n) : (a ++ t).set (n + i) x = a ++ t.set i x := by
  subst h
  rw [List.set_append_right _ _ (by omega)]
  congr 2
  omega
theorem gl {α : Type} {a t : List α} {i : Nat} (h : i < a.length) : (a ++ t)[i]? = a[i]? := List.getElem?_append_left h
theorem sl {α : Type} {a t : List α} {i : Nat} {x : α} (h : i < a.length) : (a ++ t).set i x = a.set i x ++ t := List.set_append_left _ _ h
theorem for_find {β : Type} {bd : MV → MT} {f : β → MV} {s : MS} {h : MH} (c : β → Bool) (r : β → MV) : ∀ {xs : List β}, (∀ x ∈ xs, bd (f x) s h = if c x = true then some (.ret (r x) h) else some (.nx s h)) →
    forS bd (xs.map f) s h = match xs.find? c with
      | some x => some (.ret (r x) h)
      | none => some (.nx s h)
  | [], _ => rfl
  | x :: xs, hs => by
    rw [List.map_cons]
    unfold forS
    rw [hs x (List.mem_cons_self ..), List.find?_cons]
    cases hc : c x with
    | true => rfl
    | false =>
      rw [if_neg Bool.false_ne_true]
      exact for_find c r fun y hy => hs y (List.mem_cons_of_mem _ hy)
theorem for_all {β : Type} {bd : MV → MT} {f : β → MV} {s : MS} {h : MH} (c : β → Bool) (r : MV) {xs : List β} (hs : ∀ x ∈ xs, bd (f x) s h = if c x = true then some (.nx s h) else some (.ret r h)) :
    forS bd (xs.map f) s h = if xs.all c = true then some (.nx s h) else some (.ret r h) := by
  rw [for_find (fun x => !c x) (fun _ => r) (xs := xs) fun x hx => by
    rw [hs x hx]
    cases c x <;> rfl]
  cases hf : xs.find? fun x => !c x with
  | none =>
    have : xs.all c = true := List.all_eq_true.mpr fun x hx => by
      have := List.find?_eq_none.mp hf x hx
      simpa using this
    rw [this]
    rfl
  | some y =>
    have : xs.all c = false := List.all_eq_false.mpr ⟨y, List.mem_of_find?_eq_some hf, by
      have := List.find?_some hf
      simpa using this⟩
    rw [this]
    rfl
theorem run_m {n : Nat} : runOf 0 n = (List.range n).map nV := run_nat
theorem rng1_n {n : Nat} {h : MH} (q : n ≤ 1000000) : rng1F [nV n] h = ok (.st ((List.range n).map nV)) h := by
  unfold rng1F
  dsimp only
  rw [if_pos (by omega), Int.toNat_natCast, run_m]
mutual
theorem cloV_le {n m : Nat} (h : n ≤ m) : ∀ {x : MV}, cloV n x = true → cloV m x = true
  | .non, _ => rfl
  | .bl _, _ => rfl
  | .int _, _ => rfl
  | .str _, _ => rfl
  | .ref l, e => decide_eq_true (Nat.lt_of_lt_of_le (of_decide_eq_true e) h)
  | .tup xs, e => cloL_le h (xs := xs) e
  | .ktp xs, e => cloL_le h (xs := xs) e
  | .fls xs, e => cloL_le h (xs := xs) e
  | .frz xs, e => cloL_le h (xs := xs) e
  | .exc _ _ _ xs, e => cloL_le h (xs := xs) e
  | .fdt _ xs, e => cloL_le h (xs := xs) e
theorem cloL_le {n m : Nat} (h : n ≤ m) : ∀ {xs : List MV}, cloL n xs = true → cloL m xs = true
  | [], _ => rfl
  | x :: xs, e => by
    have e' : (cloV n x && cloL n xs) = true := e
    rw [Bool.and_eq_true] at e'
    show (cloV m x && cloL m xs) = true
    rw [cloV_le h e'.1, cloL_le h e'.2]
    rfl
end
theorem cloO_le {n m : Nat} (h : n ≤ m) : ∀ {o : MO}, cloO n o = true → cloO m o = true
  | .dead, _ => rfl
  | .lst xs, e => cloL_le h (xs := xs) e
  | .dK kvs, e => by
    have e' : cloL n (kvs.map (·.2)) = true := e
    exact cloL_le h e'
  | .dT kvs, e => by
    have e' : cloL n (kvs.map (·.2)) = true := e
    exact cloL_le h e'
  | .ins _ kvs, e => by
    have e' : cloL n (kvs.map (·.2)) = true := e
    exact cloL_le h e'
theorem cloL_iff {n : Nat} : ∀ {xs : List MV}, cloL n xs = true ↔ ∀ x ∈ xs, cloV n x = true
  | [] => ⟨fun _ _ h => (nomatch h), fun _ => rfl⟩
  | x :: xs => by
    show (cloV n x && cloL n xs) = true ↔ _
    rw [Bool.and_eq_true, cloL_iff (xs := xs)]
    simp
theorem cloL_map {β : Type} {n : Nat} {f : β → MV} {xs : List β} (h : ∀ x, cloV n (f x) = true) : cloL n (xs.map f) = true := cloL_iff.mpr fun y hy => by
  obtain ⟨x, _, e⟩ := List.mem_map.mp hy
  rw [← e]
  exact h x
@[simp] theorem clo_int {n : Nat} {i : Int} : cloV n (.int i) = true := rfl
@[simp] theorem clo_bl {n : Nat} {i : Bool} : cloV n (.bl i) = true := rfl
@[simp] theorem clo_str {n : Nat} {i : Str} : cloV n (.str i) = true := rfl
@[simp] theorem clo_non {n : Nat} : cloV n .non = true := rfl
@[simp] theorem clo_tup {n : Nat} {xs : List MV} : cloV n (.tup xs) = cloL n xs := rfl
@[simp] theorem clo_fls {n : Nat} {xs : List MV} : cloV n (.fls xs) = cloL n xs := rfl
@[simp] theorem clo_frz {n : Nat} {xs : List MV} : cloV n (.frz xs) = cloL n xs := rfl
@[simp] theorem clo_nil {n : Nat} : cloL n [] = true := rfl
@[simp] theorem clo_cons {n : Nat} {x : MV} {xs : List MV} : cloL n (x :: xs) = (cloV n x && cloL n xs) := rfl
@[simp] theorem clo_ints {n : Nat} {xs : List Int} : cloL n (xs.map MV.int) = true := cloL_map fun _ => rfl
@[simp] theorem clo_ns {n : Nat} {xs : List Nat} : cloL n (xs.map nV) = true := cloL_map fun _ => rfl
@[simp] theorem clo_prs {n : Nat} {xs : List (Nat × Nat)} : cloL n (xs.map prV) = true := cloL_map fun _ => rfl
@[simp] theorem clo_tb {n k : Nat} {f : Nat → Bool} : cloL n (tb k fun y => MV.bl (f y)) = true := cloL_map fun _ => rfl
@[simp] theorem clo_mat {n a b : Nat} {f : Nat → Nat → Bool} : cloV n (matV a b f) = true := cloL_map fun x => cloL_map fun _ => rfl
theorem cut_eq {f : MF} {xs : List MV} {v : MV} {h h' h2 : MH} (e : f xs h = ok v h') (hv : cloV 0 v = true) (hk : CutOk h h') (ht : h'.take h.length = h2) : cutF f xs h = ok v h2 := by
  unfold cutF
  rw [e]
  dsimp only
  rw [if_pos ⟨cloV_le (Nat.zero_le _) hv, hk⟩, ht]
theorem seq_nx {a b : MT} {s s1 : MS} {h h1 : MH} (e : a s h = some (.nx s1 h1)) : seqS a b s h = b s1 h1 := by
  unfold seqS
  rw [e]
theorem seq_ret {a b : MT} {s : MS} {h h1 : MH} {x : MV} (e : a s h = some (.ret x h1)) : seqS a b s h = some (.ret x h1) := by
  unfold seqS
  rw [e]
theorem consA_ok {a : ME} {r : MM (List MV)} {s : MS} {h h1 h2 : MH} {x : MV} {xs : List MV} (e1 : a s h = ok x h1) (e2 : r s h1 = ok xs h2) : consA a r s h = ok (x :: xs) h2 := by
  unfold consA
  rw [e1, bnd_ok, e2, bnd_ok]
theorem tupM_ok {r : MM (List MV)} {s : MS} {h h1 : MH} {xs : List MV} (e : r s h = ok xs h1) (hl : xs.length ≤ 1000) : tupM r s h = ok (.tup xs) h1 := by
  unfold tupM
  rw [e, bnd_ok, if_pos (Nat.le_trans hl (by unfold lim; omega))]
theorem retS_ok {a : ME} {s : MS} {h h1 : MH} {x : MV} (e : a s h = ok x h1) : retS a s h = some (.ret x h1) := by
  unfold retS
  rw [e, bndS_ok]
theorem setS_ok {i : Nat} {a : ME} {s : MS} {h h1 : MH} {x : MV} (e : a s h = ok x h1) : setS i a s h = some (.nx (s.set i (some x)) h1) := by
  unfold setS
  rw [e, bndS_ok]
theorem ifS_t {t : MM Bool} {a b : MT} {s : MS} {h h1 : MH} (e : t s h = ok true h1) : ifS t a b s h = a s h1 := by
  unfold ifS
  rw [e, bndS_ok, if_pos rfl]
theorem ifS_f {t : MM Bool} {a b : MT} {s : MS} {h h1 : MH} (e : t s h = ok false h1) : ifS t a b s h = b s h1 := by
  unfold ifS
  rw [e, bndS_ok, if_neg Bool.false_ne_true]
theorem callM_ok {f : MF} {ds : List MV} {a : MM (List MV)} {s : MS} {h h1 h2 : MH} {xs : List MV} {y : MV} (e : a s h = ok xs h1) (e2 : f (xs ++ ds) h1 = ok y h2) : callM f ds a s h = ok y h2 := by
  unfold callM
  rw [e, bnd_ok, e2]
  rfl
end Mi
set_option maxHeartbeats 2000000
namespace Mi
open PySem L2
def ordV (n : Nat) (ps : List (Nat × Nat)) : MV := .tup [nV n, .tup (ps.map prV)]
@[simp] theorem clo_ord {k n : Nat} {ps : List (Nat × Nat)} : cloV k (ordV n ps) = true := by simp [ordV]
theorem at1 {S os t : MH} {o : MO} {a p : Nat} (h1 : S.length = a) (hp : p = a + os.length) : (S ++ (os ++ (o :: t)))[p]? = some o := by
  subst hp
  rw [ga h1, ga0 rfl]
  rfl
structure SOrd (n : Nat) (f : Nat → Nat → Bool) : Prop where
  rk : ∃ ρ : Nat → Nat, ∀ x y, f x y = true → ρ x < ρ y
  lt : ∀ x y, f x y = true → x < n ∧ y < n
  tr : ∀ x y z, f x y = true → f y z = true → f x z = true
structure Mp (n m : Nat) (r : List Nat) : Prop where
  len : r.length = n
  lt : ∀ v ∈ r, v < m
theorem Mp.at {n m x : Nat} {r : List Nat} (h : Mp n m r) (hx : x < n) : ∃ v, r[x]? = some v ∧ v < m := ⟨r[x]'(by rw [h.len]; exact hx), List.getElem?_eq_getElem _, h.lt _ (List.getElem_mem _)⟩
theorem Mp.set {n m x v : Nat} {r : List Nat} (h : Mp n m r) (hv : v < m) : Mp n m (r.set x v) := ⟨by rw [List.length_set]; exact h.len, fun w hw => by
  rcases List.mem_or_eq_of_mem_set hw with z | z
  · exact h.lt w z
  · rw [z]
    exact hv⟩
end Mi
set_option maxHeartbeats 2000000
namespace Mi
open PySem L2
@[simp ↓] def remF (x : MV) (ys : List MV) (h : MH) : Res MV := match x, ys with
  | .ref l, [.int k] => match h[l]? with
    | some (.lst xs) => match intsOf xs with
      | some ns => if ns.idxOf k < ns.length then ok .non (h.set l (.lst (xs.eraseIdx (ns.idxOf k)))) else none
      | none => none
    | _ => none
  | _, _ => none
section
variable {X : Cx} {c : XC} {K : PySem.W.Frag} {W : Wd}
end
end Mi
set_option maxHeartbeats 4000000
namespace Mi
open PySem PySem.Spec PyProof.Rows L2 HT PySem.AutoSeq1
section
variable {X : Cx}
end
@[simp ↓] def extTF (x : MV) (ys : List MV) (h : MH) : Res MV := match ys with
  | [.tup zs] => match x with
    | .ref l => match h[l]? with
      | some (.lst xs) => if xs.length + zs.length ≤ lim then ok .non (h.set l (.lst (xs ++ zs))) else none
      | _ => none
    | _ => none
  | ys => extF x ys h
section
variable {X : Cx} {c : XC} {K : PySem.W.Frag} {W : Wd}
end
section
variable {prog : Program} {w : World} {A : Around} {E : Value → Shared → Prop} {s : Shared}
end
@[simp ↓] def rvsT (m : ME) : ME := fun s h => (m s h).bnd fun x h1 => match x with
  | .tup xs => ok (.tup xs.reverse) h1
  | x => match lstOf h1 x with
    | some xs => ok (.fls xs.reverse) h1
    | none => none
section
variable {X : Cx} {c : XC} {e : Expr} {pos : Pos}
end
end Mi
set_option maxHeartbeats 4000000
namespace Mi
open PySem L2
@[simp ↓] def strF (xs : List MV) (h : MH) : Res MV := match xs with
  | [.int i] => if i.natAbs.log2 < 1920 then ok (.str (toString i)) h else none
  | _ => none
section
variable {c : XC} {K : PySem.W.Frag}
end
end Mi
set_option maxHeartbeats 4000000
namespace Mi
open PySem L2
section
variable {K : PySem.W.Frag} {W : Wd}
theorem RKV.look {f : Str} : ∀ {fs : List (Str × MV)} {kws : List (Str × V)}, RKV K W fs kws → (∀ x, fs.lookup f = some x → ∃ v, kws.lookup f = some v ∧ RV K W x v) ∧ (fs.lookup f = none → kws.lookup f = none)
  | _, _, .nil => ⟨(fun _ h => by cases h), fun _ => rfl⟩
  | _, _, @RKV.cons _ _ _ k x v fs kws r t => by
    rw [List.lookup_cons, List.lookup_cons]
    cases (f == k) with
    | true => exact ⟨(fun y h => by cases h; exact ⟨v, rfl, r⟩), (fun h => by cases h)⟩
    | false => exact RKV.look t
end
section
variable {X : Cx} {c : XC} {e o : Expr} {es : List Expr} {cn f m : Str} {C : Addr} {pos apos : Pos}
end
section
variable {X : Cx} {c : XC} {E : XK} {k : Nat} {f C : Addr} {fd : FuncData} {ps : List Str} {ds : List Value} {dvs : List V} {dms : List MV} {x cn m : Str} {p pos apos : Pos} {o e : Expr} {es : List Expr} {ma : MM (List MV)} {mo : ME} {np : Nat} {fM : MF}
end
section
variable {X : Cx} {c : XC} {e o i : Expr} {pos tpos : Pos}
end
end Mi
set_option maxHeartbeats 4000000
namespace Mi
open PySem L2
abbrev MG := MV → MS → Option MS
def allG : List MG → List MV → MS → Option MS
  | [], [], s => some s
  | g :: gs, x :: xs, s => match g x s with
    | some s1 => allG gs xs s1
    | none => none
  | _, _, _ => none
@[simp ↓] def unpN (gs : List MG) (x : MV) (s : MS) : Option MS := match x with
  | .tup xs => allG gs xs s
  | _ => none
section
variable {K : PySem.W.Frag}
end
@[simp ↓] def parS (i j : Nat) (a : MM (List MV)) : MT := fun s h => bndS (a s h) fun xs h1 => match xs with
  | [x, y] => some (.nx ((s.set i (some x)).set j (some y)) h1)
  | _ => none
@[simp ↓] def parS3 (i j l : Nat) (a : MM (List MV)) : MT := fun s h => bndS (a s h) fun xs h1 => match xs with
  | [x, y, z] => some (.nx (((s.set i (some x)).set j (some y)).set l (some z)) h1)
  | _ => none
section
variable {X : Cx} {c : XC} {pos : Pos} {a b d : Expr} {px py pz pt : Pos} {kt : _} {k2 : _} {pt2 : _} {x y z : Str} {i j l : Nat} {m : MM (List MV)}
end
def runC (a c : Int) (n : Nat) : List MV := (List.range n).map fun (i : Nat) => MV.int (a + (i : Int) * c)
@[simp ↓] def rng3F (xs : List MV) (h : MH) : Res MIter := match xs with
  | [.int i, .int j, .int c] => if c ≠ 0 ∧ c.natAbs < 1073741824 ∧ Builtin.Range.small i j c = true ∧ 0 ≤ Builtin.Range.rangeSize i j c then ok (.st (runC i c (Builtin.Range.rangeSize i j c).toNat)) h else none
  | _ => none
@[simp ↓] def rng3 (m : MM (List MV)) : MM MIter := fun s h => (m s h).bnd rng3F
section
variable {X : Cx} {c : XC} {tg a b d : Expr} {K : PySem.W.Frag} {W : Wd} {p pos : Pos} {m : MM (List MV)}
end
end Mi
set_option maxHeartbeats 4000000
namespace Mi
open PySem L2
@[simp ↓] def dnewM : ME := fun _ h => ok (.ref h.length) (h ++ [.dK []])
@[simp ↓] def dputS (mv mo mi : ME) : MT := fun s h => bndS (mv s h) fun x h1 => bndS (mo s h1) fun y h2 => bndS (mi s h2) fun z h3 => match y with
  | .ref l => match h3[l]?, keyOf z with
    | some (.dK kvs), some k => if kvs.length < lim then some (.nx s (h3.set l (.dK (putM kvs k x)))) else none
    | _, _ => none
  | _ => none
section
variable {X : Cx} {c : XC} {K : PySem.W.Frag} {W : Wd} {o i value : Expr} {pos pos' : Pos} {mv mo mi : ME}
theorem s_dput (hu : X.A.units + 64 < cLine) (ho : EM X c o mo) (hi : EM X c i mi) (hv : EM X c value mv) (hs : swapsWith value (some (.Subscript o i pos')) pos.line X.env = pure false := by rfl) : SM X c (.Assign [.Subscript o i pos'] value pos) (dputS mv mo mi) :=
  ps_wk (ps_dput (by omega) ho hi hv hs) fun D σ H ⟨W, h, s, eW, S, rs, p⟩ => by
    subst eW
    refine ⟨W, h, s, rfl, S, rs, p.bnd fun W1 h1 x x1 S1 p1 v r1 => ?_⟩
    refine ⟨W1, h1, s, rfl, S1, rs.mono x1, p1.bnd fun W2 h2 y x2 S2 p2 u r2 => ?_⟩
    refine ⟨W2, h2, s, rfl, S2, (rs.mono x1).mono x2, p2.bnd fun W3 h3 z x3 S3 p3 w r3 => ?_⟩
    cases y <;> first | exact p3.elim | skip
    rename_i l
    dsimp only at p3
    cases hl : h3[l]? with
    | none =>
      rw [hl] at p3
      exact p3.elim
    | some ob =>
      rw [hl] at p3
      cases ob with
      | dead => exact p3.elim
      | lst xs => exact p3.elim
      | ins cn fs => exact p3.elim
      | dK kvs =>
        cases hk : keyOf z with
        | none =>
          rw [hk] at p3
          exact p3.elim
        | some k =>
          rw [hk] at p3
          dsimp only at p3
          by_cases hlm : kvs.length < lim
          · rw [if_pos hlm] at p3
            obtain ⟨a, kws, ea, e2, e3, t⟩ := S3.dictAt hl (r2.mono x3)
            refine ⟨a, upd W3.H a (.dK (putK kws k v)), ea, ?_, ?_⟩
            · rw [key_V r3 hk]
              exact DPut.k e3 (Nat.lt_of_lt_of_le (by rw [← t.length]; exact hlm) (lim_line (Nat.le_refl _)))
            · exact p3 (W3.wr a (.dK (putK kws k v))) σ (Ext.wr S3 e2) (S3.wr e2 ⟨_, upd_same, (t.put ((r1.mono x2).mono x3)).mono (Ext.wr S3 e2)⟩) ((((rs.mono x1).mono x2).mono x3).mono (Ext.wr S3 e2))
          · rw [if_neg hlm] at p3
            exact p3.elim
      | dT kvs =>
        cases hk : keyOf z <;> rw [hk] at p3 <;> exact p3.elim
end
section
variable {X : Cx}
end
@[simp ↓] def isbF (x y : MV) (h : MH) : Res MV := match y with
  | .bl b => match x with
    | .bl a => ok (.bl (decide (a = b))) h
    | _ => ok (.bl false) h
  | _ => none
@[simp ↓] def nobF (x y : MV) (h : MH) : Res MV := match y with
  | .bl b => match x with
    | .bl a => ok (.bl (!decide (a = b))) h
    | _ => ok (.bl true) h
  | _ => none
section
variable {c : XC} {K : PySem.W.Frag}
end
end Mi
set_option maxHeartbeats 2000000
namespace Mi
open PySem L2
section
variable {s : MS} {h h1 h2 h3 : MH} {a b d m el : ME} {x y z : MV} {xs ys : List MV} {i n : Nat}
theorem r_var (e : slot s i = some x) : varM i s h = ok x h := by
  unfold varM
  rw [e]
  rfl
theorem r_op {f : MV → MV → MH → Res MV} (e1 : a s h = ok x h1) (e2 : b s h1 = ok y h2) (e3 : f x y h2 = ok z h3) : opM f a b s h = ok z h3 := by
  unfold opM
  rw [e1, bnd_ok, e2, bnd_ok, e3]
theorem r_nil : nilA s h = ok [] h := rfl
theorem r_blt {f : List MV → MH → Res MV} {l : MM (List MV)} (e : l s h = ok xs h1) (e2 : f xs h1 = ok y h2) : bltM f l s h = ok y h2 := by
  unfold bltM
  rw [e]
  exact e2
theorem r_fls {l : MM (List MV)} (e : l s h = ok xs h1) : flsM l s h = ok (.fls xs) h1 := by
  unfold flsM
  rw [e]
  rfl
theorem r_ref {l : MM (List MV)} (e : l s h = ok xs h1) : refM l s h = ok (.ref h1.length) (h1 ++ [.lst xs]) := by
  unfold refM
  rw [e]
  rfl
theorem r_lst {l : MM (List MV)} (e : l s h = ok xs h1) (hl : xs.length ≤ 400000) : lstM l s h = ok xs h1 := by
  unfold lstM
  rw [e, bnd_ok, if_pos (by unfold lim; omega)]
theorem r_ixt (e1 : a s h = ok (.tup xs) h1) (e2 : b s h1 = ok (nV i) h2) (e3 : xs[i]? = some x) : opM ixF a b s h = ok x h2 := r_op e1 e2 (by simp [atI_n, e3])
theorem r_tupf (e1 : a s h = ok (.fls xs) h1) : bltM tupF (consA a nilA) s h = ok (.tup xs) h1 := r_blt (consA_ok e1 r_nil) rfl
theorem r_tupr {l : Nat} (e1 : a s h = ok (.ref l) h1) (e0 : h1[l]? = some (.lst xs)) : bltM tupF (consA a nilA) s h = ok (.tup xs) h1 := r_blt (consA_ok e1 r_nil) (by simp [e0])
theorem r_add {i j : Nat} (e1 : a s h = ok (nV i) h1) (e2 : b s h1 = ok (nV j) h2) : opM addF a b s h = ok (nV (i + j)) h2 := r_op e1 e2 (by
  show ok (MV.int ((i : Int) + (j : Int))) h2 = ok (MV.int ((i + j : Nat) : Int)) h2
  rw [Int.natCast_add])
theorem r_sub {i j : Nat} (e1 : a s h = ok (nV i) h1) (e2 : b s h1 = ok (nV j) h2) (hij : j ≤ i) : opM subF a b s h = ok (nV (i - j)) h2 := r_op e1 e2 (by
  show ok (MV.int ((i : Int) - (j : Int))) h2 = ok (MV.int ((i - j : Nat) : Int)) h2
  rw [Int.ofNat_sub hij])
theorem r_mod {i j : Nat} (e1 : a s h = ok (nV i) h1) (e2 : b s h1 = ok (nV j) h2) (hj : 0 < j) : opM modF a b s h = ok (nV (i % j)) h2 := r_op e1 e2 (by
  show (if 0 < (j : Int) then ok (MV.int ((i : Int) % (j : Int))) h2 else none) = ok (MV.int ((i % j : Nat) : Int)) h2
  rw [if_pos (by omega), Int.natCast_emod])
theorem r_eq {i j : Nat} (e1 : a s h = ok (nV i) h1) (e2 : b s h1 = ok (nV j) h2) : opM eqF a b s h = ok (.bl (decide (i = j))) h2 := r_op e1 e2 (by
  show ok (MV.bl (decide ((i : Int) = (j : Int)))) h2 = _
  rw [show decide ((i : Int) = (j : Int)) = decide (i = j) from (by (rw [decide_eq_decide]; omega))])
theorem r_ne {i j : Nat} (e1 : a s h = ok (nV i) h1) (e2 : b s h1 = ok (nV j) h2) : opM neF a b s h = ok (.bl (!decide (i = j))) h2 := r_op e1 e2 (by
  show ok (MV.bl (!decide ((i : Int) = (j : Int)))) h2 = _
  rw [show decide ((i : Int) = (j : Int)) = decide (i = j) from (by (rw [decide_eq_decide]; omega))])
theorem r_lt {i j : Nat} (e1 : a s h = ok (nV i) h1) (e2 : b s h1 = ok (nV j) h2) : opM ltF a b s h = ok (.bl (decide (i < j))) h2 := r_op e1 e2 (by
  show ok (MV.bl (decide ((i : Int) < (j : Int)))) h2 = _
  rw [show decide ((i : Int) < (j : Int)) = decide (i < j) from (by (rw [decide_eq_decide]; omega))])
theorem r_gt {i j : Nat} (e1 : a s h = ok (nV i) h1) (e2 : b s h1 = ok (nV j) h2) : opM gtF a b s h = ok (.bl (decide (j < i))) h2 := r_op e1 e2 (by
  show ok (MV.bl (decide ((j : Int) < (i : Int)))) h2 = _
  rw [show decide ((j : Int) < (i : Int)) = decide (j < i) from (by (rw [decide_eq_decide]; omega))])
theorem r_ge {i j : Nat} (e1 : a s h = ok (nV i) h1) (e2 : b s h1 = ok (nV j) h2) : opM geF a b s h = ok (.bl (decide (j ≤ i))) h2 := r_op e1 e2 (by
  show ok (MV.bl (decide ((j : Int) ≤ (i : Int)))) h2 = _
  rw [show decide ((j : Int) ≤ (i : Int)) = decide (j ≤ i) from (by (rw [decide_eq_decide]; omega))])
theorem r_tst {p : Bool} (e : a s h = ok (.bl p) h1) : tstM a s h = ok p h1 := by
  unfold tstM
  rw [e]
  rfl
theorem r_tru {p : Bool} (e : a s h = ok (.bl p) h1) : truM a s h = ok p h1 := by
  unfold truM
  rw [e]
  rfl
theorem r_not {t : MM Bool} {p : Bool} (e : t s h = ok p h1) : notT t s h = ok (!p) h1 := by
  unfold notT
  rw [e]
  rfl
theorem r_and {t u : MM Bool} {p q : Bool} (e : t s h = ok p h1) (e2 : p = true → u s h1 = ok q h1) : andT t u s h = ok (p && q) h1 := by
  unfold andT
  rw [e, bnd_ok]
  cases p with
  | true => exact e2 rfl
  | false => rfl
theorem r_or {t u : MM Bool} {p q : Bool} (e : t s h = ok p h1) (e2 : p = false → u s h1 = ok q h1) : orT t u s h = ok (p || q) h1 := by
  unfold orT
  rw [e, bnd_ok]
  cases p with
  | true => rfl
  | false => exact e2 rfl
theorem r_and_t {t u : MM Bool} {q : Bool} (e : t s h = ok true h1) (e2 : u s h1 = ok q h2) : andT t u s h = ok q h2 := by
  unfold andT
  rw [e, bnd_ok, if_pos rfl, e2]
theorem r_and_f {t u : MM Bool} (e : t s h = ok false h1) : andT t u s h = ok false h1 := by
  unfold andT
  rw [e, bnd_ok, if_neg Bool.false_ne_true]
theorem r_or_f {t u : MM Bool} {q : Bool} (e : t s h = ok false h1) (e2 : u s h1 = ok q h2) : orT t u s h = ok q h2 := by
  unfold orT
  rw [e, bnd_ok, if_neg Bool.false_ne_true, e2]
theorem r_or_t {t u : MM Bool} (e : t s h = ok true h1) : orT t u s h = ok true h1 := by
  unfold orT
  rw [e, bnd_ok, if_pos rfl]
theorem q_fls (e : a s h = ok (.fls xs) h1) : seqI a s h = ok (.st xs) h1 := by
  unfold seqI
  rw [e]
  rfl
theorem q_tup (e : a s h = ok (.tup xs) h1) : seqI a s h = ok (.st xs) h1 := by
  unfold seqI
  rw [e]
  rfl
theorem q_frz (e : a s h = ok (.frz xs) h1) : seqI a s h = ok (.st xs) h1 := by
  unfold seqI
  rw [e]
  rfl
theorem q_ref {l : Nat} (e : a s h = ok (.ref l) h1) (e0 : h1[l]? = some (.lst xs)) : seqI a s h = ok (.dyn l (xs.length + 1)) h1 := by
  unfold seqI
  rw [e, bnd_ok]
  simp [e0]
theorem q_rng (e : a s h = ok (nV n) h1) (hn : n ≤ 400000) : rng1 (consA a nilA) s h = ok (.st ((List.range n).map nV)) h1 := by
  unfold rng1
  rw [consA_ok e r_nil, bnd_ok]
  exact rng1_n (by omega)
def rng (i j : Nat) : List Nat := (List.range (j - i)).map fun k => i + k
theorem q_rng2 {i j : Nat} (e : a s h = ok (nV i) h1) (e2 : b s h1 = ok (nV j) h2) (hn : i ≤ 400000) (hj : j ≤ 400000) : rng2 (consA a (consA b nilA)) s h = ok (.st ((rng i j).map nV)) h2 := by
  unfold rng2
  rw [consA_ok e (consA_ok e2 r_nil), bnd_ok]
  show (if ((i : Int) ≤ 1000000 ∧ -1000000 ≤ (i : Int)) ∧ ((j : Int) ≤ 1000000 ∧ -1000000 ≤ (j : Int)) then ok (MIter.st (runOf (i : Int) ((j : Int) - (i : Int)).toNat)) h2 else none) = _
  rw [if_pos (by omega)]
  unfold runOf rng
  rw [List.map_map, show ((j : Int) - (i : Int)).toNat = j - i by omega]
  rfl
theorem l_st {mi : MM MIter} {vs : List Nat} {g : MG} {cd : MM Bool} {its : List MV} (e : mi s h = ok (.st its) h1) : lcM mi vs g cd el s h = lcS g cd el (wipeM s vs) its [] h1 := by
  unfold lcM
  rw [e]
  rfl
theorem t_for {mi : MM MIter} {g : MG} {bd : MT} {its : List MV} (e : mi s h = ok (.st its) h1) : forM mi g bd s h = forS (turnM g bd) its s h1 := by
  unfold forM
  rw [e]
  rfl
theorem t_forD {mi : MM MIter} {g : MG} {bd : MT} {l n : Nat} (e : mi s h = ok (.dyn l n) h1) : forM mi g bd s h = forL (turnM g bd) l n 0 s h1 := by
  unfold forM
  rw [e]
  rfl
theorem t_drop (e : a s h = ok x h1) : dropS a s h = some (.nx s h1) := by
  unfold dropS
  rw [e]
  rfl
theorem t_sub {l : Nat} {j : Int} {h4 : MH} (e : a s h = ok x h1) (e1 : b s h1 = ok (.ref l) h2) (e2 : d s h2 = ok (.int j) h3) (e3 : wrF l j x h3 = some h4) : subS a b d s h = some (.nx s h4) := by
  unfold subS
  rw [e, bndS_ok, e1, bndS_ok, e2, bndS_ok]
  show (match wrF l j x h3 with | some h4 => some (OutS.nx s h4) | none => none) = _
  rw [e3]
theorem w_n {l : Nat} (e : h[l]? = some (.lst xs)) (hi : i < xs.length) : wrF l (i : Int) x h = some (h.set l (.lst (xs.set i x))) := by
  unfold wrF
  rw [e]
  dsimp only
  rw [ixN_n, if_pos hi]
theorem r_app {l : Nat} {k : MM (List MV)} (e : a s h = ok (.ref l) h1) (e2 : k s h1 = ok [y] h2) (e1 : h1[l]? = some (.lst ys)) (e3 : h2[l]? = some (.lst xs)) (hl : xs.length ≤ 400000) : mthM appF a k s h = ok MV.non (h2.set l (.lst (xs ++ [y]))) := by
  unfold mthM
  rw [e, bnd_ok, if_pos (by simp [isL, e1]), e2, bnd_ok]
  show (match h2[l]? with | some (.lst zs) => if zs.length < lim then ok MV.non (h2.set l (.lst (zs ++ [y]))) else none | _ => none) = _
  rw [e3]
  dsimp only
  rw [if_pos (by unfold lim; omega)]
theorem t_if_nil {t : MM Bool} {m : MT} (e : t s h = ok false h1) : ifS t m nilS s h = some (.nx s h1) := by
  rw [ifS_f e]
  rfl
theorem wip_nx {m : MT} {s1 : MS} {vs : List Nat} (e : m s h = some (.nx s1 h1)) : wipT vs m s h = some (.nx (wipeM s1 vs) h1) := by
  unfold wipT
  rw [e]
end
end Mi
set_option maxHeartbeats 2000000
namespace Mi
open PySem L2
structure Eqv {α : Type} [DecidableEq α] (P : α → Prop) (k : Nat) (e : α → MV) (pd : α → PyData) : Prop where
  py : ∀ a, pyOf (e a) = some (pd a)
  lay : ∀ a, P a → (pd a).canLay0 = true
  dep : ∀ a, (pd a).depth ≤ k
  eqv : ∀ a b, PyData.eqv (pd a) (pd b) = decide (a = b)
section
variable {α β γ : Type} [DecidableEq α] [DecidableEq β] [DecidableEq γ] {P : α → Prop} {P2 : β → Prop} {P3 : γ → Prop} {k k2 k3 : Nat} {e : α → MV} {e2 : β → MV} {e3 : γ → MV} {pd : α → PyData} {pd2 : β → PyData} {pd3 : γ → PyData}
theorem Eqv.int : Eqv (α := Int) (fun _ => True) 0 MV.int .int := ⟨fun _ => rfl, fun _ _ => rfl, fun _ => Nat.le_refl _, fun a b => by
  show (a == b) = _
  rw [Bool.eq_iff_iff, beq_iff_eq, decide_eq_true_iff]⟩
theorem Eqv.bool : Eqv (α := Bool) (fun _ => True) 0 MV.bl .bool := ⟨fun _ => rfl, fun _ _ => rfl, fun _ => Nat.le_refl _, fun a b => by
  show (a == b) = _
  rw [Bool.eq_iff_iff, beq_iff_eq, decide_eq_true_iff]⟩
theorem Eqv.str : Eqv (α := Str) (fun x => PyData.canLay0 (.str x) = true) 0 MV.str .str := ⟨fun _ => rfl, fun _ h => h, fun _ => Nat.le_refl _, fun a b => by
  show (a == b) = _
  rw [Bool.eq_iff_iff, beq_iff_eq, decide_eq_true_iff]⟩
theorem pys_map (h : Eqv P k e pd) : ∀ {xs : List α}, pysOf (xs.map e) = some (xs.map pd)
  | [] => rfl
  | x :: xs => by
    rw [List.map_cons]
    unfold pysOf
    rw [h.py, pys_map h]
    rfl
theorem lay_map (h : Eqv P k e pd) : ∀ {xs : List α}, (∀ x ∈ xs, P x) → PyData.canLayAll0 (xs.map pd) = true
  | [], _ => rfl
  | x :: xs, hx => by
    show (PyData.canLay0 (pd x) && PyData.canLayAll0 (xs.map pd)) = true
    rw [h.lay x (hx x (List.mem_cons_self ..)), lay_map h fun y hy => hx y (List.mem_cons_of_mem _ hy)]
    rfl
theorem dep_map (h : Eqv P k e pd) : ∀ {xs : List α}, PyData.depthAll (xs.map pd) ≤ k
  | [] => Nat.zero_le _
  | x :: xs => Nat.max_le.mpr ⟨h.dep x, dep_map h⟩
theorem eqv_map (h : Eqv P k e pd) : ∀ {xs ys : List α}, PyData.eqvAll (xs.map pd) (ys.map pd) = decide (xs = ys)
  | [], [] => rfl
  | [], y :: ys => rfl
  | x :: xs, [] => rfl
  | x :: xs, y :: ys => by
    show (PyData.eqv (pd x) (pd y) && PyData.eqvAll (xs.map pd) (ys.map pd)) = _
    rw [h.eqv, eqv_map h, ← Bool.decide_and]
    exact decide_eq_decide.mpr (by simp)
theorem Eqv.tl (h : Eqv P k e pd) : Eqv (fun xs : List α => ∀ x ∈ xs, P x) (k + 1) (fun xs => .tup (xs.map e)) fun xs => .tuple (xs.map pd) := ⟨fun xs => by
  show (pysOf (xs.map e)).map PyData.tuple = _
  rw [pys_map h]
  rfl, fun xs hx => lay_map h hx, fun xs => Nat.succ_le_succ (dep_map h), fun xs ys => eqv_map h⟩
theorem Eqv.fl (h : Eqv P k e pd) : Eqv (fun xs : List α => ∀ x ∈ xs, P x) (k + 1) (fun xs => .fls (xs.map e)) fun xs => .list (xs.map pd) := ⟨fun xs => by
  show (pysOf (xs.map e)).map PyData.list = _
  rw [pys_map h]
  rfl, fun xs hx => lay_map h hx, fun xs => Nat.succ_le_succ (dep_map h), fun xs ys => eqv_map h⟩
theorem Eqv.pr (h : Eqv P k e pd) (h2 : Eqv P2 k2 e2 pd2) : Eqv (fun p : α × β => P p.1 ∧ P2 p.2) (max k k2 + 1) (fun p => .tup [e p.1, e2 p.2]) fun p => .tuple [pd p.1, pd2 p.2] := ⟨fun p => by
  show (pysOf [e p.1, e2 p.2]).map PyData.tuple = _
  unfold pysOf pysOf pysOf
  rw [h.py, h2.py]
  rfl, fun p hp => by
  show (PyData.canLay0 (pd p.1) && (PyData.canLay0 (pd2 p.2) && true)) = true
  rw [h.lay _ hp.1, h2.lay _ hp.2]
  rfl, fun p => by
  have := h.dep p.1
  have := h2.dep p.2
  show max (pd p.1).depth (max (pd2 p.2).depth 0) + 1 ≤ _
  omega, fun p q => by
  show (PyData.eqv (pd p.1) (pd q.1) && (PyData.eqv (pd2 p.2) (pd2 q.2) && true)) = _
  rw [h.eqv, h2.eqv, Bool.and_true, ← Bool.decide_and]
  exact decide_eq_decide.mpr (by rw [Prod.ext_iff])⟩
theorem shaped_of (h : Eqv P k e pd) (hk : k ≤ 64) {a : α} (ha : P a) : SeqAt.shaped (pd a) = true := by
  unfold SeqAt.shaped
  rw [h.lay a ha, decide_eq_true (Nat.le_trans (h.dep a) hk)]
  rfl
theorem eqB_deep {x y : MV} {d d2 : PyData} (h1 : pyOf x = some d) (h2 : pyOf y = some d2) (s1 : SeqAt.shaped d = true) (s2 : SeqAt.shaped d2 = true) : eqB x y = some (PyData.eqv d d2) := by
  have gen : (match pyOf x, pyOf y with | some d, some e => if SeqAt.shaped d = true ∧ SeqAt.shaped e = true then some (PyData.eqv d e) else none | _, _ => none) = some (PyData.eqv d d2) := by
    rw [h1, h2]
    dsimp only
    rw [if_pos ⟨s1, s2⟩]
  have fin : ∀ {p q : Bool}, (p = true ↔ q = true) → some p = some q := fun h => by rw [Bool.eq_iff_iff.mpr h]
  cases x <;> cases y <;> first
    | exact gen
    | (cases h1; cases h2; rfl)
    | (cases h1; cases h2; exact fin (by rw [decide_eq_true_iff]; exact beq_iff_eq.symm))
theorem Eqv.eqB (h : Eqv P k e pd) (hk : k ≤ 64) {a b : α} (ha : P a) (hb : P b) : eqB (e a) (e b) = some (decide (a = b)) := by
  rw [eqB_deep (h.py a) (h.py b) (shaped_of h hk ha) (shaped_of h hk hb), h.eqv]
end
end Mi
set_option maxHeartbeats 2000000
namespace Mi
open PySem L2
def kyN (x : Nat) : Key := .inl (x : Int)
theorem kyN_inj {x y : Nat} (h : kyN x = kyN y) : x = y := by
  unfold kyN at h
  have := Sum.inl.inj h
  omega
theorem idx_ne {x y : Nat} {L : List Nat} (h : ¬ y = x) : (y :: L).idxOf x = L.idxOf x + 1 := by
  rw [List.idxOf_cons, show (y == x) = false from beq_eq_false_iff_ne.mpr h]
  rfl
theorem idx_at : ∀ {L : List Nat} {j : Nat}, L.Nodup → j < L.length → L.idxOf (L.getD j 0) = j
  | [], j, _, h => absurd h (Nat.not_lt_zero _)
  | y :: L, 0, _, _ => List.idxOf_cons_self
  | y :: L, j + 1, hd, h => by
    have hj : j < L.length := Nat.lt_of_succ_lt_succ h
    have e : (y :: L).getD (j + 1) 0 = L.getD j 0 := by simp [List.getD_eq_getElem?_getD]
    rw [e, idx_ne, idx_at (List.nodup_cons.mp hd).2 hj]
    intro z
    have : L.getD j 0 ∈ L := by
      rw [List.getD_eq_getElem?_getD, List.getElem?_eq_getElem hj]
      exact List.getElem_mem hj
    rw [← z] at this
    exact (List.nodup_cons.mp hd).1 this
end Mi
set_option maxHeartbeats 2000000
namespace Mi
open PySem L2
def keysOf : List MV → Option (List Key)
  | [] => some []
  | x :: xs => match keyOf x, keysOf xs with
    | some k, some ks => some (k :: ks)
    | _, _ => none
def tkOf : MV → Option (List Key)
  | .tup xs => keysOf xs
  | _ => none
def keyMV : Key → MV
  | .inl i => .int i
  | .inr x => .str x
def tkMV (k : List Key) : MV := .tup (k.map keyMV)
def tabOf (h : MH) : MV → Option (List (List Key × MV))
  | .ref l => match h[l]? with
    | some (.dT kvs) => some kvs
    | _ => none
  | .fdt ks xs => some (ks.zip xs)
  | _ => none
@[simp ↓] def dnewTM : ME := fun _ h => ok (.ref h.length) (h ++ [.dT []])
@[simp ↓] def dgetTF (x y : MV) (h : MH) : Res MV := match tabOf h x, tkOf y with
  | some kvs, some k => match valM kvs k with
    | some v => ok v h
    | none => none
  | _, _ => none
@[simp ↓] def dinTF (y x : MV) (h : MH) : Res MV := match tabOf h x, tkOf y with
  | some kvs, some k => ok (.bl (valM kvs k).isSome) h
  | _, _ => none
@[simp ↓] def dninTF (y x : MV) (h : MH) : Res MV := match tabOf h x, tkOf y with
  | some kvs, some k => ok (.bl (!(valM kvs k).isSome)) h
  | _, _ => none
@[simp ↓] def dputTS (mv mo mi : ME) : MT := fun s h => bndS (mv s h) fun x h1 => bndS (mo s h1) fun y h2 => bndS (mi s h2) fun z h3 => match y with
  | .ref l => match h3[l]?, tkOf z with
    | some (.dT kvs), some k => if kvs.length < lim then some (.nx s (h3.set l (.dT (putM kvs k x)))) else none
    | _, _ => none
  | _ => none
@[simp ↓] def lkS (i : Nat) (m : MT) : MT := fun s h => match s[i]? with
  | some (some (.ref l)) => match h[l]? with
    | some (.dT kvs) => m (s.set i (some (.fdt (kvs.map (·.1)) (kvs.map (·.2))))) (h.set l .dead)
    | _ => none
  | _ => none
@[simp ↓] def keysI (m : ME) : MM MIter := fun s h => (m s h).bnd fun x h1 => match x with
  | .fdt ks xs => if ks.length = xs.length then ok (.st (ks.map tkMV)) h1 else none
  | _ => none
section
variable {K : PySem.W.Frag} {W : Wd}
theorem RO.notup {o : MO} {a : Addr} {vs : List V} (r : RO K W o a) (e : W.H a = some (.tup vs)) : False := by
  cases o with
  | dead => exact r
  | lst xs =>
    obtain ⟨ws, q, _⟩ := r
    rw [e] at q
    cases q
  | dK xs =>
    obtain ⟨ws, q, _⟩ := r
    rw [e] at q
    cases q
  | dT xs =>
    obtain ⟨ws, q, _⟩ := r
    rw [e] at q
    cases q
  | ins cn fs =>
    obtain ⟨C, dx, ws, _, q, _⟩ := r
    rw [e] at q
    cases q
theorem Sim.tup {h : MH} (S : Sim K W h) {q : Addr} {vs : List V} (e : W.H q = some (.tup vs)) : Stab W q := ⟨fun l z => by
  obtain ⟨o, _, r⟩ := S.obj l q z
  exact r.notup e, fun hh => by
  obtain ⟨u, e1, n⟩ := S.hids q hh
  rw [e] at e1
  cases e1
  exact n _ rfl⟩
end
section
variable {X : Cx} {c : XC} {K : PySem.W.Frag} {W : Wd} {o i e tg value : Expr} {pos pos' : Pos} {mv mo mi : ME}
end
end Mi
set_option maxHeartbeats 2000000
namespace Mi
open PySem L2
@[simp ↓] def rgL2 (a b : ME) : MM (List MV) := fun s h => (a s h).bnd fun x h1 => (b s h1).bnd fun y h2 => match x, y with
  | .int n, .int k => if (n ≤ 1000000 ∧ -1000000 ≤ n) ∧ (k ≤ 1000000 ∧ -1000000 ≤ k) then ok (runOf n (k - n).toNat) h2 else none
  | _, _ => none
@[simp ↓] def rgT2 (a b : ME) : ME := fun s h => (a s h).bnd fun x h1 => (b s h1).bnd fun y h2 => match x, y with
  | .int n, .int k => if (n ≤ 1000000 ∧ -1000000 ≤ n) ∧ (k ≤ 1000000 ∧ -1000000 ≤ k) then ok (.tup (runOf n (k - n).toNat)) h2 else none
  | _, _ => none
section
variable {X : Cx} {c : XC} {a b : Expr} {pos p p2 : Pos} {K : PySem.W.Frag} {W : Wd}
end
end Mi
set_option maxHeartbeats 4000000
namespace Mi
open PySem L2 PySem.Spec PyProof.Rows
section
variable {X : Cx}
end
@[simp ↓] def repF (x y : MV) (h : MH) : Res MV := match x, y with
  | .tup xs, .int k => if (xs ≠ [] ∧ xs.length ≤ 1000) ∧ 1 ≤ k ∧ k ≤ 1000 then ok (.tup (List.replicate k.toNat xs).flatten) h else none
  | _, _ => none
section
variable {X : Cx} {c : XC} {K : PySem.W.Frag} {W : Wd}
end
end Mi
set_option maxHeartbeats 2000000
namespace Mi
open PySem L2
noncomputable section
def wipK (vs : List Nat) (r : Option OutS) : Option OutS := match r with
  | some (.nx s1 h1) => some (.nx (wipeM s1 vs) h1)
  | some (.brk s1 h1) => some (.brk (wipeM s1 vs) h1)
  | some (.cnt s1 h1) => some (.cnt (wipeM s1 vs) h1)
  | r => r
def defK (r : Option OutS) : Res MV := match r with
  | some (.nx _ h') => ok .non h'
  | some (.ret x h') => ok x h'
  | some (.ex e h') => some (.ex e h')
  | _ => none
theorem defM_K {np n : Nat} {m : MT} {xs : List MV} {h : MH} (hl : xs.length = np) : defM np n m xs h = defK (m (xs.map some ++ List.replicate (n - np) none) h) := by
  unfold defM defK
  refine (if_pos hl).trans ?_
  first
  | rfl
  | (cases m (xs.map some ++ List.replicate (n - np) none) h with
    | none => rfl
    | some o => cases o <;> rfl)
section
end
end
end Mi
set_option maxHeartbeats 2000000
namespace Mi
open PySem L2
noncomputable section
section
variable (pre t : MH) (b n x q : Nat) (f : Nat → Nat → Bool) (c : Nat → Bool)
end
end
end Mi
set_option maxHeartbeats 2000000
namespace Mi
open PySem L2
noncomputable section
end
end Mi
set_option maxHeartbeats 2000000
namespace Mi
open PySem L2
end Mi
set_option maxHeartbeats 2000000
namespace Mi
open PySem L2
end Mi
set_option maxHeartbeats 2000000
namespace Mi
open PySem L2
section
variable (A B t : MH) (b n x : Nat) (f : Nat → Nat → Bool) (c : Nat → Bool)
end
end Mi
set_option maxHeartbeats 2000000
namespace Mi
open PySem L2
section
variable {X : Cx} {c : XC} {K : PySem.W.Frag} {W : Wd}
end
end Mi
set_option maxHeartbeats 2000000
namespace Mi
open PySem L2
section
variable {X : Cx} {c : XC} {K : PySem.W.Frag} {W : Wd} {o e : Expr} {es : List Expr}
end
end Mi
set_option maxHeartbeats 2000000
namespace Mi
open PySem L2
def pairsM : List (Str × ME) → MM (List (Key × MV))
  | [] => fun _ h => ok [] h
  | p :: r => fun s h => (p.2 s h).bnd fun x h1 => (pairsM r s h1).bnd fun kvs h2 => ok ((Sum.inr p.1, x) :: kvs) h2
def mergeM (kvs more : List (Key × MV)) : List (Key × MV) := more.foldl (fun acc kv => putM acc kv.1 kv.2) kvs
def dispM (ps : List (Str × ME)) : ME := fun s h => (pairsM ps s (h ++ [.dK []])).bnd fun kvs h2 => match h2[h.length]? with
  | some (.dK []) => if kvs.length ≤ 15 then ok (.ref h.length) (h2.set h.length (.dK (mergeM [] kvs))) else none
  | _ => none
section
variable {X : Cx} {c : XC} {K : PySem.W.Frag} {W : Wd}
theorem RKV.merge : ∀ {bs : List (Key × MV)} {ws : List (Key × V)} {as : List (Key × MV)} {vs : List (Key × V)}, RKV K W bs ws → RKV K W as vs → RKV K W (mergeM as bs) (mergeK vs ws)
  | _, _, as, vs, .nil, q => q
  | _, _, as, vs, .cons r t, q => RKV.merge (as := putM as _ _) (vs := putK vs _ _) t (q.put r)
theorem pairs_tr : ∀ (ps : List (Str × ME)) {W : Wd} {h : MH} {s : MS} {σ : St} {Q : List (V × V) → Hp → Prop}, Sim K W h → RS K W s σ → Pst K c (fun W' (kvs : List (Key × MV)) => ∀ vs, RKV K W' kvs vs → Q (vs.map fun kv => (kV kv.1, kv.2)) W'.H) W (pairsM ps s h) → tPairs (ps.map fun p => (tM K c (cM (.str p.1)), tM K c p.2)) σ W.H Q
  | [], W, h, s, σ, Q, S, rs, p => p W (Ext.refl W) S [] .nil
  | q :: r, W, h, s, σ, Q, S, rs, p => by
    refine ⟨W, h, s, rfl, S, rs, fun W' x' S' v rv => ?_⟩
    have ev : v = kV (Sum.inr q.1) := key_V rv rfl
    subst ev
    refine ⟨W', h, s, rfl, S', rs.mono x', Pst.bnd2 p x' fun W2 h2 z x2 S2 p2 w r2 => ?_⟩
    exact pairs_tr r S2 ((rs.mono x').mono x2) (Pst.bnd2 p2 (x'.trans x2) fun W3 h3 kvs x3 S3 p3 vs rv => p3 W3 ((x'.trans x2).trans x3) S3 ((Sum.inr q.1, w) :: vs) (.cons (r2.mono x3) rv))
theorem em_disp {pos : Pos} {keys : List (Option Expr)} {values : List Expr} {ps : List (Str × ME)} (h : PPs X pos keys values (ps.map fun p => (tM X.K c (cM (.str p.1)), tM X.K c p.2))) (hall : keys.all (·.isSome) = true) (hl : keys.length = values.length) (h0 : keys ≠ [])
    (h15 : keys.length ≤ 15) : EM X c (.Dict keys values pos) (dispM ps) := pe_wk (pe_disp h hall hl h0 h15) fun σ H Q ⟨W, h1, s, eW, S, rs, p⟩ D hD => by
  subst eW
  have xa : Ext W (W.add D (.dK [])) := Ext.add S hD
  have Sa : Sim X.K (W.add D (.dK [])) (h1 ++ [.dK []]) := S.add hD ⟨[], upd_same, .nil⟩
  have fl : (W.add D (.dK [])).f h1.length = some D := by
    show (if h1.length = W.n then some D else W.f h1.length) = some D
    rw [if_pos S.n.symm]
  have ln : h1.length < (W.add D (.dK [])).n := by
    show h1.length < W.n + 1
    rw [S.n]
    exact Nat.lt_succ_self _
  have isD : ∀ W' : Wd, Ext (W.add D (.dK [])) W' → ∀ b, W'.f h1.length = some b → b = D := fun W' x' b hb => by
    rcases x'.agree _ ln with q | q
    · rw [q, fl] at hb
      exact (Option.some.inj hb).symm
    · rw [q] at hb
      cases hb
  refine pairs_tr ps Sa (rs.mono xa) (Pst.bnd2 p xa fun W2 h2 kvs x2 S2 p2 vs rv => ?_)
  cases hl : h2[h1.length]? with
  | none =>
    rw [hl] at p2
    exact p2.elim
  | some ob =>
    rw [hl] at p2
    cases ob <;> first | exact p2.elim | skip
    rename_i kvs0
    cases kvs0 with
    | cons a b => exact p2.elim
    | nil =>
      obtain ⟨a, ea⟩ := S2.live _ _ hl (by intro z; cases z)
      obtain rfl : a = D := isD W2 x2 a ea
      obtain ⟨o2, e2, ro⟩ := S2.obj _ a ea
      rw [hl] at e2
      cases e2
      obtain ⟨kws, e3, tt⟩ := ro
      cases tt
      dsimp only at p2
      by_cases hlm : kvs.length ≤ 15
      · rw [if_pos hlm] at p2
        have xw : Ext W2 (W2.wr a (.dK (mergeK [] vs))) := Ext.wr S2 ea
        refine ⟨e3, vs, rfl, by rw [← rv.length]; exact hlm, ?_⟩
        exact p2 (W2.wr a (.dK (mergeK [] vs))) ((xa.trans x2).trans xw) (S2.wr (m := .dK (mergeM [] kvs)) ea ⟨_, upd_same, (RKV.merge rv .nil).mono xw⟩) (.ref a) (.ref (Nat.lt_of_lt_of_le ln (x2.trans xw).le) (isD _ (x2.trans xw)))
      · rw [if_neg hlm] at p2
        exact p2.elim
end
end Mi
set_option maxHeartbeats 400000
namespace Mi
open PySem L2
section
variable {prog : Program} {w : World} {K : Type} [DecidableEq K] {knd : HeapKind prog w K} {A : Around} {E : Value → Shared → Prop} {s : Shared}
end
section
variable {X : Cx} {c : XC} {K : PySem.W.Frag} {W : Wd}
end
end Mi
set_option maxHeartbeats 1000000
namespace Mi
open PySem L2 RT PyProof.Rows
section
variable {prog : Program} {w : World} {A : Around} {s : Shared} {R : Result → Shared → Prop}
end
section
variable {prog : Program} {w : World} {A : Around} {E : Value → Shared → Prop} {s : Shared}
end
section
variable {X : Cx} {c : XC}
end
end Mi
set_option maxHeartbeats 1000000
namespace Mi
open PySem L2
end Mi
set_option maxHeartbeats 1000000
namespace Mi
open PySem L2
section
variable {X : Cx} {c : XC} {K : PySem.W.Frag} {W : Wd} {o e f : Expr} {apos cpos : Pos} {mo mk md : ME}
end
end Mi
set_option maxHeartbeats 2000000
namespace Mi
open PySem L2
section
variable {s : MS} {h h1 h2 h3 : MH} {a b d : ME} {l : Nat} {v z : MV} {k : List Key} {kvs : List (List Key × MV)}
end
section
variable {V : List Nat → MV} {r : List Nat} {rs : List (List Nat)} {l : Nat} {h : MH}
end
end Mi
set_option maxHeartbeats 2000000
namespace Mi
open PySem PySem.Spec PyProof.Rows
def kI (r : List Int) : List (Int ⊕ List Nat) := r.map Sum.inl
section
variable {prog : Program} {w : World} {A : Around} {E : Value → Shared → Prop} {s : Shared}
def IsT (h : Heap) (v : Value) (ns : List Int) : Prop := ∃ a o xs n, v = .ref a ∧ h.get? a = some o ∧ o.cls = .type "tuple" ∧ o.data = .seq xs n ∧ tupItems (fun _ => false) 0 xs.toList = some (kI ns)
theorem items_hd : ∀ {l : List Value} {i : Int} {ns : List Int}, tupItems (fun _ => false) 0 l = some (kI (i :: ns)) → ∃ t, l[0]? = some (.int i t)
  | [], i, ns, e => nomatch e
  | x :: l, i, ns, e => by
    cases x <;> first | (cases e; done) | skip
    · rename_i j t
      have e' : (tupItems (fun _ => false) 1 l).map (Sum.inl j :: ·) = some (kI (i :: ns)) := e
      cases c : tupItems (fun _ => false) 1 l with
      | none =>
        rw [c] at e'
        cases e'
      | some q =>
        rw [c] at e'
        have := Option.some.inj e'
        have e2 : (Sum.inl j : Int ⊕ List Nat) :: q = Sum.inl i :: kI ns := this
        injection e2 with e3 e4
        rw [Sum.inl.inj e3]
        exact ⟨t, rfl⟩
theorem IsT.tup {h : Heap} {v : Value} {ns : List Int} (t : IsT h v ns) (hn : ns ≠ []) : ∃ f, TupOf h (fun _ => false) v f := by
  obtain ⟨a, o, xs, n, rfl, ho, hc, hd, hi⟩ := t
  cases ns with
  | nil => exact absurd rfl hn
  | cons i ns =>
    obtain ⟨t, ht⟩ := items_hd hi
    refine ⟨.int i t, a, o, xs, n, rfl, ho, hc, hd, ?_, fun _ => ⟨i, t, rfl⟩, fun e => nomatch e⟩
    rw [← Array.getElem?_toList]
    exact ht
end
end Mi
namespace L2
open PySem PySem.Spec PyProof.Rows
section
variable {X : Cx}
end
end L2
namespace Mi
open PySem L2
section
variable {X : Cx} {c : XC} {K : PySem.W.Frag} {W : Wd}
end
end Mi
set_option maxHeartbeats 2000000
namespace Mi
open PySem L2
section
variable {X : Cx} {c : XC} {K : PySem.W.Frag} {W : Wd}
end
section
variable {s : MS} {h h1 h2 h3 : MH} {a b d : ME} {l : Nat} {x : Int} {v : MV} {kvs : List (Key × MV)}
end
end Mi
set_option maxHeartbeats 4000000
namespace Mi
open PySem L2 PySem.Spec PyProof.Rows
section
variable {X : Cx}
end
section
variable {X : Cx} {c : XC} {K : PySem.W.Frag} {W : Wd}
end
end Mi
set_option maxHeartbeats 4000000
namespace L2
open PySem PySem.Spec PyProof.Rows
section
variable {prog : Program} {w : World} {A : Around} {E : Value → Shared → Prop} {s : Shared}
end
section
variable {X : Cx}
end
end L2
namespace Mi
open PySem L2
section
variable {X : Cx} {c : XC} {K : PySem.W.Frag} {W : Wd}
end
end Mi
set_option maxHeartbeats 2000000
namespace Mi
open PySem L2
theorem obind {α β : Type} {o : Option α} {k : α → Option β} {r : β} (e : o.bind k = some r) : ∃ a, o = some a ∧ k a = some r := Option.bind_eq_some_iff.mp e
def gd {α : Type} (c : Prop) [Decidable c] (k : Option α) : Option α := if c then k else none
theorem gd_e {α : Type} {c : Prop} [Decidable c] {k : Option α} {r : α} (e : gd c k = some r) : c ∧ k = some r := by
  unfold gd at e
  split at e
  · exact ⟨by assumption, e⟩
  · cases e
theorem gd_ok {α : Type} {c : Prop} [Decidable c] {k : Option α} (h : c) : gd c k = k := if_pos h
def lett {α β : Type} (v : α) (k : α → β) : β := k v
theorem lett_e {α β : Type} {v : α} {k : α → Option β} {r : β} (e : lett v k = some r) : ∃ x, x = v ∧ k x = some r := ⟨v, rfl, e⟩
theorem lett_is {α β : Type} {v : α} {k : α → β} : lett v k = k v := rfl
theorem ite_e {α : Type} {c : Bool} {a b : Option α} {r : α} (e : (if c = true then a else b) = some r) : (c = true ∧ a = some r) ∨ (c = false ∧ b = some r) := by
  cases c
  · exact .inr ⟨rfl, e⟩
  · exact .inl ⟨rfl, e⟩
theorem some_e {α : Type} {a b : α} (e : some a = some b) : b = a := (Option.some.inj e).symm
theorem ok_lt {α : Type} {x v : α} {f : α → MV} {r : Res MV} {h : MH} (hx : x = v) (e : r = ok (f v) h) : r = ok (f x) h := by rw [hx]; exact e
inductive Lp (σ ρ : Type) where
  | nx (a : σ) | bk (a : σ) | rt (r : ρ)
def forO {σ α : Type} (f : σ → α → Option σ) : List α → σ → Option σ
  | [], a => some a
  | x :: xs, a => (f a x).bind fun b => forO f xs b
def forR {σ ρ α : Type} (f : σ → α → Option (Lp σ ρ)) : List α → σ → Option (Lp σ ρ)
  | [], a => some (.nx a)
  | x :: xs, a => (f a x).bind fun o => match o with
    | .nx b => forR f xs b
    | .bk b => some (.nx b)
    | .rt r => some (.rt r)
def whO {σ ρ : Type} (c : σ → Option Bool) (b : σ → Option (Lp σ ρ)) : Nat → σ → Option (Lp σ ρ)
  | 0, _ => none
  | n + 1, a => (c a).bind fun t => if t = true then (b a).bind fun o => match o with
    | .nx a1 => whO c b n a1
    | .bk a1 => some (.nx a1)
    | .rt r => some (.rt r) else some (.nx a)
def lcO {α β : Type} (c : α → Option Bool) (v : α → Option β) : List α → Option (List β)
  | [] => some []
  | x :: xs => (c x).bind fun b => if b = true then (v x).bind fun y => (lcO c v xs).map fun r => y :: r else lcO c v xs
def lcW {σ α β : Type} (f : σ → α → Option (Option β × σ)) : List α → σ → Option (List β × σ)
  | [], a => some ([], a)
  | x :: xs, a => (f a x).bind fun o => (lcW f xs o.2).map fun r => (o.1.toList ++ r.1, r.2)
section
variable {P : OutS → Prop} {a b : MT} {m : ME} {s s1 : MS} {h h1 h2 : MH} {x : MV} {tm : MM Bool} {c : Bool} {vs : List Nat} {i : Nat}
theorem W_seq (e : a s h = some (.nx s1 h1)) (k : ∃ o, b s1 h1 = some o ∧ P o) : ∃ o, seqS a b s h = some o ∧ P o := by
  obtain ⟨o, e2, p⟩ := k
  exact ⟨o, (seq_nx e).trans e2, p⟩
theorem W_ret (e : m s h = ok x h1) (p : P (.ret x h1)) : ∃ o, retS m s h = some o ∧ P o := ⟨_, retS_ok e, p⟩
theorem W_nil (p : P (.nx s h)) : ∃ o, nilS s h = some o ∧ P o := ⟨_, rfl, p⟩
theorem W_t (t : tm s h = ok c h1) (hc : c = true) (k : ∃ o, a s h1 = some o ∧ P o) : ∃ o, ifS tm a b s h = some o ∧ P o := by
  subst hc
  obtain ⟨o, e2, p⟩ := k
  exact ⟨o, (ifS_t t).trans e2, p⟩
theorem W_f (t : tm s h = ok c h1) (hc : c = false) (k : ∃ o, b s h1 = some o ∧ P o) : ∃ o, ifS tm a b s h = some o ∧ P o := by
  subst hc
  obtain ⟨o, e2, p⟩ := k
  exact ⟨o, (ifS_f t).trans e2, p⟩
theorem W_st (t : tm s h = ok c h1) (hc : c = true) (k : ∃ o, seqS a b s h1 = some o ∧ P o) {a2 : MT} : ∃ o, seqS (ifS tm a a2) b s h = some o ∧ P o := by
  subst hc
  obtain ⟨o, e2, p⟩ := k
  refine ⟨o, ?_, p⟩
  rw [← e2]
  unfold seqS
  rw [ifS_t t]
theorem W_sf (t : tm s h = ok c h1) (hc : c = false) {a2 : MT} (k : ∃ o, seqS a2 b s h1 = some o ∧ P o) : ∃ o, seqS (ifS tm a a2) b s h = some o ∧ P o := by
  subst hc
  obtain ⟨o, e2, p⟩ := k
  refine ⟨o, ?_, p⟩
  rw [← e2]
  unfold seqS
  rw [ifS_f t]
theorem W_nils (k : ∃ o, b s h = some o ∧ P o) : ∃ o, seqS nilS b s h = some o ∧ P o := k
theorem W_sret (e : m s h = ok x h1) (p : P (.ret x h1)) : ∃ o, seqS (retS m) b s h = some o ∧ P o := ⟨_, seq_ret (retS_ok e), p⟩
theorem W_sout {o : OutS} (e : a s h = some o) (q : match o with | .nx _ _ => False | _ => True) (p : P o) : ∃ o, seqS a b s h = some o ∧ P o := by
  refine ⟨o, ?_, p⟩
  unfold seqS
  rw [e]
  cases o <;> first | rfl | exact q.elim
theorem seq_as {a b d : MT} : seqS (seqS a b) d s h = seqS a (seqS b d) s h := by
  unfold seqS
  cases a s h with
  | none => rfl
  | some o => cases o <;> rfl
theorem W_as {d : MT} (k : ∃ o, seqS a (seqS b d) s h = some o ∧ P o) : ∃ o, seqS (seqS a b) d s h = some o ∧ P o := by
  obtain ⟨o, e, p⟩ := k
  exact ⟨o, seq_as.trans e, p⟩
theorem W_wip {Q : OutS → Prop} (k : ∃ o, a s h = some o ∧ Q o) (q : ∀ o, Q o → ∃ u, wipK vs (some o) = some u ∧ P u) : ∃ o, wipT vs a s h = some o ∧ P o := by
  obtain ⟨o, e, p⟩ := k
  obtain ⟨u, e2, p2⟩ := q o p
  refine ⟨u, ?_, p2⟩
  rw [← e2]
  unfold wipT wipK
  rw [e]
  try (cases o <;> rfl)
end
section
variable {P : OutS → Prop} {a b : MT} {m : ME} {s s1 : MS} {h h1 h2 : MH} {x y : MV} {tm : MM Bool} {c : Bool} {vs : List Nat} {i : Nat} {g : MG}
theorem W_wip' (k : ∃ o, a s h = some o ∧ ∃ u, wipK vs (some o) = some u ∧ P u) : ∃ o, wipT vs a s h = some o ∧ P o := W_wip k fun _ q => q
theorem W_turn (q : g x s = some s1) (k : ∃ o, b s1 h = some o ∧ P o) : ∃ o, turnM g b x s h = some o ∧ P o := by
  obtain ⟨o, e, p⟩ := k
  refine ⟨o, ?_, p⟩
  unfold turnM
  rw [q]
  exact e
theorem W_lst (k : ∃ o, seqS a nilS s h = some o ∧ P o) : ∃ o, a s h = some o ∧ P o := by
  obtain ⟨o, e, p⟩ := k
  refine ⟨o, ?_, p⟩
  rw [← e]
  unfold seqS nilS
  cases a s h with
  | none => rfl
  | some o => cases o <;> rfl
theorem W_join {Q : MS → MH → Prop} (j : ∃ o, a s h = some o ∧ ∃ s1 h1, o = .nx s1 h1 ∧ Q s1 h1) (k : ∀ s1 h1, Q s1 h1 → ∃ o, b s1 h1 = some o ∧ P o) : ∃ o, seqS a b s h = some o ∧ P o := by
  obtain ⟨_, e, s1, h1, rfl, q⟩ := j
  exact W_seq e (k s1 h1 q)
theorem fn_go {r : Res MV} (k : ∃ o, a s h = some o ∧ defK (some o) = r) : defK (a s h) = r := by
  obtain ⟨o, e, p⟩ := k
  rw [e]
  exact p
end
def lpB {σ ρ β : Type} (o : Option (Lp σ ρ)) (k : σ → Option β) (kr : ρ → Option β) : Option β := o.bind fun o => match o with
  | .nx a => k a
  | .bk _ => none
  | .rt r => kr r
section
variable {h0 h h1 : MH} {L : List Nat} {l p q : Nat} {o x : MO}
def Fr (h0 : MH) (L : List Nat) (h : MH) : Prop := h0.length ≤ h.length ∧ ∀ i, i < h0.length → i ∉ L → h[i]? = h0[i]?
theorem Fr.refl : Fr h L h := ⟨Nat.le_refl _, fun _ _ _ => rfl⟩
theorem Fr.inn (f : Fr h0 L h) (hl : l ∈ L) : Fr h0 L (h.set l o) := ⟨by rw [List.length_set]; exact f.1, fun i hi hn => by
  rw [List.getElem?_set_ne (fun e : l = i => hn (by rw [← e]; exact hl))]
  exact f.2 i hi hn⟩
theorem Fr.out (f : Fr h0 L h) (hl : h0.length ≤ l) : Fr h0 L (h.set l o) := ⟨by rw [List.length_set]; exact f.1, fun i hi hn => by
  rw [List.getElem?_set_ne (by omega)]
  exact f.2 i hi hn⟩
theorem Fr.app (f : Fr h0 L h) {g : MH} : Fr h0 L (h ++ g) := ⟨by rw [List.length_append]; have := f.1; omega, fun i hi hn => by
  rw [List.getElem?_append_left (Nat.lt_of_lt_of_le hi f.1)]
  exact f.2 i hi hn⟩
theorem Fr.get (f : Fr h0 L h) (e : h0[q]? = some o) (hn : q ∉ L) : h[q]? = some o := (f.2 q (List.getElem?_eq_some_iff.mp e).1 hn).trans e
theorem Fr.tr0 {h2 : MH} (f : Fr h0 L h) (k : Fr h [] h2) : Fr h0 L h2 := ⟨Nat.le_trans f.1 k.1, fun i hi hn => (k.2 i (Nat.lt_of_lt_of_le hi f.1) List.not_mem_nil).trans (f.2 i hi hn)⟩
theorem Fr.tr {h2 : MH} {L2 : List Nat} (f : Fr h0 L h) (k : Fr h L2 h2) (hl : ∀ l ∈ L2, l ∈ L ∨ h0.length ≤ l) : Fr h0 L h2 := ⟨Nat.le_trans f.1 k.1, fun i hi hn => (k.2 i (Nat.lt_of_lt_of_le hi f.1) fun z => (hl i z).elim hn fun y => by omega).trans (f.2 i hi hn)⟩
theorem g_ne (e : h[q]? = some o) (n : p ≠ q) : (h.set p x)[q]? = some o := by rw [List.getElem?_set_ne n]; exact e
theorem g_eq (e : h[p]? = some o) : (h.set p x)[p]? = some x := List.getElem?_set_self (List.getElem?_eq_some_iff.mp e).1
theorem g_ap {g : MH} (e : h[q]? = some o) : (h ++ g)[q]? = some o := by
  rw [List.getElem?_append_left (List.getElem?_eq_some_iff.mp e).1]
  exact e
theorem g_nw (e : p = h.length) : (h ++ [x])[p]? = some x := by rw [e]; simp
theorem g_lt (e : h[p]? = some o) : p < h.length := (List.getElem?_eq_some_iff.mp e).1
theorem Fr.to0 (f : Fr h0 [] h) : h.take h0.length = h0 := by
  refine List.ext_getElem? fun i => ?_
  by_cases c : i < h0.length
  · rw [List.getElem?_take_of_lt c]
    exact f.2 i c (List.not_mem_nil)
  · rw [List.getElem?_eq_none (by rw [List.length_take]; omega), List.getElem?_eq_none (by omega)]
theorem Fr.to1 (f : Fr h0 [l] h) (e : h[l]? = some o) : h.take h0.length = h0.set l o := by
  refine List.ext_getElem? fun i => ?_
  by_cases c : i < h0.length
  · rw [List.getElem?_take_of_lt c]
    by_cases d : l = i
    · subst d
      rw [List.getElem?_set_self c]
      exact e
    · rw [List.getElem?_set_ne d]
      exact f.2 i c (by simp; omega)
  · rw [List.getElem?_eq_none (by rw [List.length_take]; omega), List.getElem?_eq_none (by rw [List.length_set]; omega)]
theorem Fr.e0 (f : Fr h0 [] h) (hl : h.length = h0.length) : h = h0 := by
  have := f.to0
  rwa [List.take_of_length_le (by omega)] at this
theorem Fr.e1 (f : Fr h0 [l] h) (hl : h.length = h0.length) (e : h[l]? = some o) : h = h0.set l o := by
  have := f.to1 e
  rwa [List.take_of_length_le (by omega)] at this
theorem Fr.cutok (f : Fr h0 L h) (hc : ∀ l ∈ L, ∃ o, h[l]? = some o ∧ cloO 0 o = true) : CutOk h0 h := ⟨f.1, fun i hi => by
  by_cases c : i ∈ L
  · obtain ⟨o, e, q⟩ := hc i c
    exact .inr ⟨o, e, cloO_le (Nat.zero_le _) q⟩
  · exact .inl (f.2 i hi c)⟩
end
section
variable {σ ρ α : Type}
def LR (Rel : σ → MS → MH → Prop) (RR : ρ → MV → MH → Prop) : Lp σ ρ → OutS → Prop
  | .nx a, o => ∃ s h, (o = .nx s h ∨ o = .cnt s h) ∧ Rel a s h
  | .bk a, o => ∃ s h, o = .brk s h ∧ Rel a s h
  | .rt r, o => ∃ v h, o = .ret v h ∧ RR r v h
def LF (Rel : σ → MS → MH → Prop) (RR : ρ → MV → MH → Prop) : Lp σ ρ → OutS → Prop
  | .nx a, o => ∃ s h, o = .nx s h ∧ Rel a s h
  | .bk _, _ => False
  | .rt r, o => ∃ v h, o = .ret v h ∧ RR r v h
def L1 (Rel : σ → MS → MH → Prop) (a : σ) (o : OutS) : Prop := ∃ s h, (o = .nx s h ∨ o = .cnt s h) ∧ Rel a s h
theorem for_R {bd : MV → MT} {e : α → MV} {f : σ → α → Option (Lp σ ρ)} (Rel : σ → MS → MH → Prop) (RR : ρ → MV → MH → Prop) (hs : ∀ a x s h o, Rel a s h → f a x = some o → ∃ u, bd (e x) s h = some u ∧ LR Rel RR o u) :
    ∀ {xs : List α} {a : σ} {s : MS} {h : MH} {o : Lp σ ρ}, Rel a s h → forR f xs a = some o → ∃ u, forS bd (xs.map e) s h = some u ∧ LF Rel RR o u
  | [], a, s, h, o, r, q => by
    cases q
    exact ⟨_, rfl, s, h, rfl, r⟩
  | x :: xs, a, s, h, o, r, q => by
    obtain ⟨o1, q1, q2⟩ := obind q
    obtain ⟨u, e1, l1⟩ := hs a x s h o1 r q1
    rw [List.map_cons]
    cases o1 with
    | nx b =>
      obtain ⟨s1, h1, (d | d), r1⟩ := l1
      · subst d
        obtain ⟨u2, e2, l2⟩ := for_R Rel RR hs r1 q2
        refine ⟨u2, ?_, l2⟩
        unfold forS
        rw [e1]
        exact e2
      · subst d
        obtain ⟨u2, e2, l2⟩ := for_R Rel RR hs r1 q2
        refine ⟨u2, ?_, l2⟩
        unfold forS
        rw [e1]
        exact e2
    | bk b =>
      cases q2
      obtain ⟨s1, h1, d, r1⟩ := l1
      subst d
      refine ⟨.nx s1 h1, ?_, s1, h1, rfl, r1⟩
      unfold forS
      rw [e1]
    | rt r =>
      cases q2
      obtain ⟨v, h1, d, r1⟩ := l1
      subst d
      refine ⟨.ret v h1, ?_, v, h1, rfl, r1⟩
      unfold forS
      rw [e1]
theorem for_O {bd : MV → MT} {e : α → MV} {f : σ → α → Option σ} (Rel : σ → MS → MH → Prop) (hs : ∀ a x s h b, Rel a s h → f a x = some b → ∃ u, bd (e x) s h = some u ∧ L1 Rel b u) :
    ∀ {xs : List α} {a b : σ} {s : MS} {h : MH}, Rel a s h → forO f xs a = some b → ∃ s1 h1, forS bd (xs.map e) s h = some (.nx s1 h1) ∧ Rel b s1 h1
  | [], a, b, s, h, r, q => by
    cases q
    exact ⟨s, h, rfl, r⟩
  | x :: xs, a, b, s, h, r, q => by
    obtain ⟨o1, q1, q2⟩ := obind q
    obtain ⟨u, e1, s1, h1, d, r1⟩ := hs a x s h o1 r q1
    rw [List.map_cons]
    obtain ⟨s2, h2, e2, r2⟩ := for_O Rel hs r1 q2
    refine ⟨s2, h2, ?_, r2⟩
    unfold forS
    rw [e1]
    rcases d with d | d <;> (subst d; exact e2)
theorem for_Rd {bd : MV → MT} {e : α → MV} {l : Nat} {f : σ → α → Option (Lp σ ρ)} {zs : List α} (Rel : σ → MS → MH → Prop) (RR : ρ → MV → MH → Prop) (K : ∀ a s h, Rel a s h → h[l]? = some (.lst (zs.map e))) (hs : ∀ a x s h o, Rel a s h → f a x = some o → ∃ u, bd (e x) s h = some u ∧ LR Rel RR o u) :
    ∀ {n i : Nat} {a : σ} {s : MS} {h : MH} {o : Lp σ ρ}, zs.length < n + i → i ≤ zs.length → Rel a s h → forR f (zs.drop i) a = some o → ∃ u, forL bd l n i s h = some u ∧ LF Rel RR o u
  | 0, i, a, s, h, o, hn, hi, r, q => by omega
  | n + 1, i, a, s, h, o, hn, hi, r, q => by
    have g := K a s h r
    unfold forL
    rw [g]
    dsimp only
    rw [List.getElem?_map]
    by_cases c : i < zs.length
    · rw [List.drop_eq_getElem_cons c] at q
      obtain ⟨o1, q1, q2⟩ := obind q
      obtain ⟨u, e1, l1⟩ := hs a _ s h o1 r q1
      rw [List.getElem?_eq_getElem c]
      dsimp only [Option.map_some]
      cases o1 with
      | nx b =>
        obtain ⟨s1, h1, d, r1⟩ := l1
        obtain ⟨u2, e2, l2⟩ := for_Rd Rel RR K hs (n := n) (i := i + 1) (by omega) (by omega) r1 q2
        refine ⟨u2, ?_, l2⟩
        rw [e1]
        rcases d with d | d <;> (subst d; exact e2)
      | bk b =>
        cases q2
        obtain ⟨s1, h1, d, r1⟩ := l1
        subst d
        refine ⟨.nx s1 h1, ?_, s1, h1, rfl, r1⟩
        rw [e1]
      | rt r =>
        cases q2
        obtain ⟨v, h1, d, r1⟩ := l1
        subst d
        refine ⟨.ret v h1, ?_, v, h1, rfl, r1⟩
        rw [e1]
    · rw [List.drop_eq_nil_of_le (by omega)] at q
      rw [List.getElem?_eq_none (by omega)]
      cases q
      exact ⟨_, rfl, s, h, rfl, r⟩
theorem forO_R {f : σ → α → Option σ} : ∀ {xs : List α} {a : σ}, forR (ρ := ρ) (fun a x => (f a x).map Lp.nx) xs a = (forO f xs a).map Lp.nx
  | [], a => rfl
  | x :: xs, a => by
    unfold forR forO
    cases f a x with
    | none => rfl
    | some b => exact forO_R
theorem for_Od {bd : MV → MT} {e : α → MV} {l : Nat} {f : σ → α → Option σ} {zs : List α} (Rel : σ → MS → MH → Prop) (K : ∀ a s h, Rel a s h → h[l]? = some (.lst (zs.map e))) (hs : ∀ a x s h b, Rel a s h → f a x = some b → ∃ u, bd (e x) s h = some u ∧ L1 Rel b u)
    {a b : σ} {s : MS} {h : MH} (r : Rel a s h) (q : forO f zs a = some b) : ∃ s1 h1, forL bd l (zs.length + 1) 0 s h = some (.nx s1 h1) ∧ Rel b s1 h1 := by
  have q2 : forR (ρ := Unit) (fun a x => (f a x).map Lp.nx) (zs.drop 0) a = some (.nx b) := by
    rw [List.drop_zero, forO_R, q]
    rfl
  obtain ⟨u, e1, s1, h1, d, r1⟩ := for_Rd Rel (fun _ _ _ => False) K (fun a x s h o ra ha => by
    cases hf : f a x with
    | none => rw [hf] at ha; cases ha
    | some c =>
      rw [hf] at ha
      cases ha
      exact hs a x s h c ra hf) (n := zs.length + 1) (i := 0) (by omega) (by omega) r q2
  subst d
  exact ⟨s1, h1, e1, r1⟩
section
variable {P : OutS → Prop} {B : MT} {mi : MM MIter} {g : MG} {bd : MT} {e : α → MV} {xs : List α} {vs : List Nat} {s : MS} {h h1 : MH} {a0 b : σ} {l : Nat}
theorem W_forO {f : σ → α → Option σ} (Rel : σ → MS → MH → Prop) (emi : mi (wipeM s vs) h = ok (.st (xs.map e)) h1) (r0 : Rel a0 (wipeM s vs) h1) (q : forO f xs a0 = some b) (hs : ∀ a x s h b, Rel a s h → f a x = some b → ∃ u, turnM g bd (e x) s h = some u ∧ L1 Rel b u) (k : ∀ s1 h1, Rel b s1 h1 → ∃ o, B s1 h1 = some o ∧ P o) : ∃ o, seqS (preW vs (forM mi g bd)) B s h = some o ∧ P o := by
  obtain ⟨s1, h2, e1, r1⟩ := for_O Rel hs r0 q
  exact W_seq ((show preW vs (forM mi g bd) s h = _ from t_for emi).trans e1) (k s1 h2 r1)
theorem W_forOd {f : σ → α → Option σ} (Rel : σ → MS → MH → Prop) (emi : mi (wipeM s vs) h = ok (.dyn l (xs.length + 1)) h1) (K : ∀ a s h, Rel a s h → h[l]? = some (.lst (xs.map e))) (r0 : Rel a0 (wipeM s vs) h1) (q : forO f xs a0 = some b) (hs : ∀ a x s h b, Rel a s h → f a x = some b → ∃ u, turnM g bd (e x) s h = some u ∧ L1 Rel b u) (k : ∀ s1 h1, Rel b s1 h1 → ∃ o, B s1 h1 = some o ∧ P o) : ∃ o, seqS (preW vs (forM mi g bd)) B s h = some o ∧ P o := by
  obtain ⟨s1, h2, e1, r1⟩ := for_Od Rel K hs r0 q
  exact W_seq ((show preW vs (forM mi g bd) s h = _ from t_forD emi).trans e1) (k s1 h2 r1)
end
theorem W_joinB {β : Type} {P : OutS → Prop} {a B : MT} {s : MS} {h : MH} {T : Option (Lp σ ρ)} {K : σ → Option β} {KR : ρ → Option β} {x : β} (e : lpB T K KR = some x) (Rel : σ → MS → MH → Prop) (RR : ρ → MV → MH → Prop) (j : ∀ o, T = some o → ∃ u, a s h = some u ∧ LF Rel RR o u) (k : ∀ q s1 h1, K q = some x → Rel q s1 h1 → ∃ o, B s1 h1 = some o ∧ P o) (k2 : ∀ r v h1, KR r = some x → RR r v h1 → P (.ret v h1)) : ∃ o, seqS a B s h = some o ∧ P o := by
  obtain ⟨o, e1, e2⟩ := obind e
  obtain ⟨u, e3, l1⟩ := j o e1
  cases o with
  | nx a =>
    obtain ⟨s1, h2, rfl, r1⟩ := l1
    exact W_seq e3 (k a s1 h2 e2 r1)
  | bk a => exact l1.elim
  | rt r =>
    obtain ⟨v, h2, rfl, r1⟩ := l1
    exact ⟨_, seq_ret e3, k2 r v h2 e2 r1⟩
theorem W_jfor {mi : MM MIter} {g : MG} {bd : MT} {e : α → MV} {xs : List α} {vs : List Nat} {s : MS} {h h1 : MH} {a0 : σ} {f : σ → α → Option (Lp σ ρ)} {o : Lp σ ρ} (Rel : σ → MS → MH → Prop) (RR : ρ → MV → MH → Prop) (emi : mi (wipeM s vs) h = ok (.st (xs.map e)) h1) (r0 : Rel a0 (wipeM s vs) h1) (q : forR f xs a0 = some o) (hs : ∀ a x s h o, Rel a s h → f a x = some o → ∃ u, turnM g bd (e x) s h = some u ∧ LR Rel RR o u) : ∃ u, preW vs (forM mi g bd) s h = some u ∧ LF Rel RR o u := by
  obtain ⟨u, e1, l1⟩ := for_R Rel RR hs r0 q
  exact ⟨u, (show preW vs (forM mi g bd) s h = _ from t_for emi).trans e1, l1⟩
theorem whl_R {cd : MM Bool} {bd : MT} {c : σ → Option Bool} {f : σ → Option (Lp σ ρ)} (Rel : σ → MS → MH → Prop) (RR : ρ → MV → MH → Prop) (hc : ∀ a s h b, Rel a s h → c a = some b → cd s h = ok b h) (hs : ∀ a s h o, Rel a s h → c a = some true → f a = some o → ∃ u, bd s h = some u ∧ LR Rel RR o u) :
    ∀ {n : Nat} {a : σ} {s : MS} {h : MH} {o : Lp σ ρ}, Rel a s h → whO c f n a = some o → ∃ u, whlG cd bd n s h = some u ∧ LF Rel RR o u
  | 0, a, s, h, o, r, q => by cases q
  | n + 1, a, s, h, o, r, q => by
    obtain ⟨t, ct, q1⟩ := obind q
    unfold whlG
    rw [hc a s h t r ct, bndS_ok]
    cases t
    · rw [if_neg (by decide)] at q1 ⊢
      cases q1
      exact ⟨_, rfl, s, h, rfl, r⟩
    · rw [if_pos rfl] at q1 ⊢
      obtain ⟨o1, q2, q3⟩ := obind q1
      obtain ⟨u, e1, l1⟩ := hs a s h o1 r ct q2
      rw [e1]
      cases o1 with
      | nx b =>
        obtain ⟨s1, h1, d, r1⟩ := l1
        obtain ⟨u2, e2, l2⟩ := whl_R Rel RR hc hs r1 q3
        refine ⟨u2, ?_, l2⟩
        rcases d with d | d <;> (subst d; exact e2)
      | bk b =>
        cases q3
        obtain ⟨s1, h1, d, r1⟩ := l1
        subst d
        exact ⟨.nx s1 h1, rfl, s1, h1, rfl, r1⟩
      | rt r =>
        cases q3
        obtain ⟨v, h1, d, r1⟩ := l1
        subst d
        exact ⟨.ret v h1, rfl, v, h1, rfl, r1⟩
theorem W_jwhl {vs : List Nat} {cd : MM Bool} {bd : MT} {c : σ → Option Bool} {f : σ → Option (Lp σ ρ)} {n : Nat} {a0 : σ} {s : MS} {h : MH} {o : Lp σ ρ} (Rel : σ → MS → MH → Prop) (RR : ρ → MV → MH → Prop) (r0 : Rel a0 (wipeM s vs) h) (q : whO c f n a0 = some o) (hc : ∀ a s h b, Rel a s h → c a = some b → cd s h = ok b h) (hs : ∀ a s h o, Rel a s h → c a = some true → f a = some o → ∃ u, bd s h = some u ∧ LR Rel RR o u) : ∃ u, preW vs (whlG cd bd n) s h = some u ∧ LF Rel RR o u := whl_R Rel RR hc hs r0 q
end
end Mi
set_option maxHeartbeats 2000000
namespace Mi
open PySem L2
def srtN (l : List Nat) : List Nat := (srtB leI (l.map fun k : Nat => (k : Int))).map Int.toNat
def srtPP (l : List (Nat × Nat)) : List (Nat × Nat) := (srtB leP (l.map fun q => ((q.1 : Int), (q.2 : Int)))).map fun q => (q.1.toNat, q.2.toNat)
def enu {α : Type} (xs : List α) : List (Nat × α) := xs.zipIdx.map fun q => (q.2, q.1)
section
variable {α β σ : Type} {a b : ME} {s : MS} {h h1 h2 h3 : MH} {y : MV} {f : α → MV} {g : β → MV} {xs ys : List α} {i j : Nat} {x : α} {m k : MM (List MV)} {p q : Nat} {vs : List Nat} {tg : MG} {cd : MM Bool} {el : ME} {mi : MM MIter} {t : MM Bool}
theorem sq_ref {o : List MV} (e : h[p]? = some (.lst o)) : seqOf h (.ref p) = some o := by
  show (match h[p]? with
    | some (MO.lst xs) => some xs
    | _ => none) = _
  rw [e]
theorem wl_ref {o : List MV} (e : h[p]? = some (.lst o)) : wlstOf h (.ref p) = some o := by
  show (match h[p]? with
    | some (MO.lst xs) => some xs
    | _ => none) = _
  rw [e]
theorem y_ixg {z : MV} {u : Int} {zs : List MV} (e1 : a s h = ok y h1) (e2 : b s h1 = ok (.int u) h2) (q : seqOf h2 y = some zs) (e3 : atI zs u = some z) : opM ixF a b s h = ok z h2 := r_op e1 e2 (by
  cases y <;> first | (cases q; done) | skip
  case ref l =>
    unfold ixF
    dsimp only
    rw [q]
    dsimp only
    rw [e3]
  all_goals
    cases q
    show (match atI zs u with
      | some z => ok z h2
      | none => none) = _
    rw [e3])
theorem y_ix (e1 : a s h = ok y h1) (e2 : b s h1 = ok (nV i) h2) (q : seqOf h2 y = some (xs.map f)) (e3 : xs[i]? = some x) : opM ixF a b s h = ok (f x) h2 := y_ixg e1 e2 q (by rw [atI_n, List.getElem?_map, e3]; rfl)
theorem y_len (e1 : a s h = ok y h1) (q : seqOf h1 y = some (xs.map f)) : bltM lenF (consA a nilA) s h = ok (nV xs.length) h1 := r_blt (consA_ok e1 r_nil) (by
  cases y <;> first | (cases q; done) | skip
  case ref l =>
    unfold lenF
    dsimp only
    rw [q]
    dsimp only
    rw [List.length_map]
  all_goals
    cases q
    show ok (MV.int (xs.map f).length) h1 = _
    rw [List.length_map])
theorem z_lst {zs : List MV} (e1 : a s h = ok y h1) (q : seqOf h1 y = some zs) : bltL lstF (consA a nilA) s h = ok zs h1 := by
  unfold bltL
  rw [consA_ok e1 r_nil]
  show (seqOf h1 y |>.map fun ys => Out.ok ys h1) = _
  rw [q]
  rfl
theorem z_cat {u w : MV} (e1 : a s h = ok u h1) (e2 : b s h1 = ok w h2) (q1 : wlstOf h2 u = some (xs.map f)) (q2 : wlstOf h2 w = some (ys.map f)) (hl : xs.length + ys.length ≤ 400000) : catL a b s h = ok ((xs ++ ys).map f) h2 := by
  unfold catL
  rw [e1, bnd_ok, e2, bnd_ok, q1, q2]
  show (if (xs.map f).length + (ys.map f).length ≤ lim then ok (xs.map f ++ ys.map f) h2 else none) = _
  rw [List.length_map, List.length_map, if_pos (Nat.le_trans hl (by decide)), List.map_append]
theorem z_rep {u : MV} (e1 : a s h = ok u h1) (e2 : b s h1 = ok (nV i) h2) (q1 : wlstOf h2 u = some (xs.map f)) (hl : xs.length * i ≤ 400000) (hi : i ≤ 400000) : repL a b s h = ok (((List.replicate i xs).flatten).map f) h2 := by
  unfold repL
  rw [e1, bnd_ok, e2, bnd_ok, q1]
  show (if ((i : Int) ≤ 1000000 ∧ -1000000 ≤ (i : Int)) ∧ (xs.map f).length * ((i : Int).toNat) ≤ lim then ok (List.replicate (i : Int).toNat (xs.map f)).flatten h2 else none) = _
  rw [if_pos ⟨by omega, by rw [List.length_map]; show _ ≤ 1000000; rw [Int.toNat_natCast]; omega⟩, Int.toNat_natCast, List.map_flatten, List.map_replicate]
theorem z_rng (e : a s h = ok (nV i) h1) (hi : i ≤ 400000) : rgL a s h = ok ((List.range i).map nV) h1 := by
  unfold rgL
  rw [e, bnd_ok]
  show (if (i : Int) ≤ 1000000 ∧ -1000000 ≤ (i : Int) then ok (runOf 0 (i : Int).toNat) h1 else none) = _
  rw [if_pos ⟨by omega, by omega⟩, Int.toNat_natCast, run_m]
theorem y_ref {zs : List MV} (e : m s h = ok zs h1) (hp : p = h1.length) (hh : h2 = h1 ++ [.lst zs]) : refM m s h = ok (.ref p) h2 := by
  rw [hp, hh]
  exact r_ref e
theorem y_push {zs : List MV} (e : a s h = ok (.ref p) h1) (e2 : k s h1 = ok [f x] h2) (w1 : h1[p]? = some (.lst zs)) (w2 : h2[p]? = some (.lst (xs.map f))) (hl : xs.length ≤ 400000) (hh : h3 = h2.set p (.lst ((xs ++ [x]).map f))) : mthM appF a k s h = ok .non h3 := by
  rw [hh, List.map_append]
  exact r_app e e2 w1 w2 (by rw [List.length_map]; exact hl)
theorem isl {zs : List MV} (w : h[p]? = some (.lst zs)) : isL h (.ref p) = true := by
  show (match h[p]? with
    | some (MO.lst _) => true
    | _ => false) = true
  rw [w]
theorem map_er {α : Type} {f : α → MV} : ∀ {xs : List α} {i : Nat}, (xs.map f).eraseIdx i = (xs.eraseIdx i).map f
  | [], _ => rfl
  | _ :: _, 0 => rfl
  | x :: xs, i + 1 => congrArg (f x :: ·) map_er
theorem y_popAt {zs : List MV} (e : a s h = ok (.ref p) h1) (e2 : k s h1 = ok [nV i] h2) (w1 : h1[p]? = some (.lst zs)) (w2 : h2[p]? = some (.lst (xs.map f))) (e3 : xs[i]? = some x) (hl : xs.length ≤ 400000) (hh : h3 = h2.set p (.lst ((xs.eraseIdx i).map f))) : mthM popAtF a k s h = ok (f x) h3 := by
  have il : i < xs.length := (List.getElem?_eq_some_iff.mp e3).1
  have lz : ∀ zs : List MV, zs.length < 1 ∨ 0 < zs.length := fun zs => by omega
  unfold mthM
  rw [e, bnd_ok, if_pos (isl w1), e2, bnd_ok]
  show (match h2[p]? with
    | some (MO.lst xs) => match ixN xs.length (i : Int) with
      | some k => match xs[k]? with
        | some y => if xs.length ≤ lim then ok y (h2.set p (.lst (xs.eraseIdx k))) else none
        | none => none
      | none => none
    | _ => none) = _
  rw [w2]
  dsimp only
  rw [ixN_n, List.length_map, if_pos il]
  dsimp only
  rw [List.getElem?_map, e3]
  dsimp only [Option.map_some]
  rw [if_pos (Nat.le_trans hl (by decide)), hh, map_er]
theorem y_put {h4 : MH} {d : ME} (e : a s h = ok (f x) h1) (e1 : b s h1 = ok (.ref p) h2) (e2 : d s h2 = ok (nV i) h3) (w : h3[p]? = some (.lst (xs.map f))) (hi : i < xs.length) (hh : h4 = h3.set p (.lst ((xs.set i x).map f))) : subS a b d s h = some (.nx s h4) := t_sub e e1 e2 ((w_n w (by rw [List.length_map]; exact hi)).trans (by rw [hh, List.map_set]))
theorem y_frz {zs : List MV} (e : a s h = ok (.ref p) h1) (w : h1[p]? = some (.lst zs)) (hz : zs.all flatT = true) (hh : h2 = h1.set p .dead) : frzM a s h = ok (.fls zs) h2 := by
  unfold frzM
  rw [e, bnd_ok]
  rw [frz_lst (xs := zs) 2 w hz, hh]
theorem i_sub {i j : Int} (e1 : a s h = ok (.int i) h1) (e2 : b s h1 = ok (.int j) h2) : opM subF a b s h = ok (.int (i - j)) h2 := r_op e1 e2 rfl
theorem i_mul {i j : Int} (e1 : a s h = ok (.int i) h1) (e2 : b s h1 = ok (.int j) h2) (g : mulOk i j) : opM mulF a b s h = ok (.int (i * j)) h2 := r_op e1 e2 (by
  show (if mulOk i j then ok (MV.int (i * j)) h2 else none) = _
  rw [if_pos g])
theorem n_mul (e1 : a s h = ok (nV i) h1) (e2 : b s h1 = ok (nV j) h2) (g : mulOk i j) : opM mulF a b s h = ok (nV (i * j)) h2 := (i_mul e1 e2 g).trans (by rw [show nV (i * j) = MV.int ((i : Int) * (j : Int)) from congrArg MV.int (Int.natCast_mul i j)])
theorem i_mod {i j : Int} (e1 : a s h = ok (.int i) h1) (e2 : b s h1 = ok (.int j) h2) (g : 0 < j) : opM modF a b s h = ok (.int (i % j)) h2 := r_op e1 e2 (by
  show (if 0 < j then ok (MV.int (i % j)) h2 else none) = _
  rw [if_pos g])
theorem i_modN {i : Int} {j : Nat} (e1 : a s h = ok (.int i) h1) (e2 : b s h1 = ok (nV j) h2) (g : 0 < j) : opM modF a b s h = ok (nV (i % (j : Int)).toNat) h2 := (i_mod e1 e2 (by omega)).trans (by rw [show nV (i % (j : Int)).toNat = MV.int (i % (j : Int)) from congrArg MV.int (Int.toNat_of_nonneg (Int.emod_nonneg _ (by omega)))])
theorem i_div {i j : Int} (e1 : a s h = ok (.int i) h1) (e2 : b s h1 = ok (.int j) h2) (g : 0 < j ∧ j < 1073741824) : opM divF a b s h = ok (.int (i / j)) h2 := r_op e1 e2 (by
  show (if 0 < j ∧ j < 1073741824 then ok (MV.int (i / j)) h2 else none) = _
  rw [if_pos g])
theorem n_div {i j : Nat} (e1 : a s h = ok (nV i) h1) (e2 : b s h1 = ok (nV j) h2) (g : 0 < j ∧ j < 1000000000) : opM divF a b s h = ok (nV (i / j)) h2 := (i_div e1 e2 (by omega)).trans (by rw [show nV (i / j) = MV.int ((i : Int) / (j : Int)) from congrArg MV.int (Int.natCast_ediv i j)])
theorem i_abs {i : Int} (e1 : a s h = ok (.int i) h1) : bltM absF (consA a nilA) s h = ok (nV i.natAbs) h1 := r_blt (consA_ok e1 r_nil) (by
  show ok (MV.int (if i < 0 then -i else i)) h1 = _
  congr 2
  split <;> omega)
theorem i_int {i : Int} (e1 : a s h = ok (.int i) h1) : bltM intF (consA a nilA) s h = ok (.int i) h1 := r_blt (consA_ok e1 r_nil) rfl
theorem lcS_O {S1 : α → MS} {c : α → Option Bool} {v : α → Option β} {s0 : MS} (ht : ∀ x, tg (f x) s0 = some (S1 x)) (hc : ∀ x b, c x = some b → cd (S1 x) h = ok b h) (hv : ∀ x y, v x = some y → el (S1 x) h = ok (g y) h) :
    ∀ {xs : List α} {r : List β} {acc : List MV}, acc.length + xs.length ≤ 400000 → lcO c v xs = some r → lcS tg cd el s0 (xs.map f) acc h = ok (acc ++ r.map g) h
  | [], r, acc, _, e => by
    cases e
    show ok acc h = _
    rw [List.map_nil, List.append_nil]
  | x :: xs, r, acc, hl, e => by
    obtain ⟨t, e1, e⟩ := obind e
    rw [List.length_cons] at hl
    rw [List.map_cons]
    unfold lcS
    rw [ht x]
    dsimp only
    rw [hc x t e1, bnd_ok]
    rcases ite_e e with ⟨ct, e⟩ | ⟨ct, e⟩
    · obtain ⟨y, e2, e⟩ := obind e
      obtain ⟨r2, e3, e4⟩ := Option.map_eq_some_iff.mp e
      rw [if_pos ct, hv x y e2, bnd_ok, if_pos (by show _ < 1000000; omega), lcS_O ht hc hv (acc := acc ++ [g y]) (by rw [List.length_append]; show _ + 1 + _ ≤ _; omega) e3, ← e4, List.append_assoc]
      rfl
    · rw [if_neg (by rw [ct]; decide)]
      exact lcS_O ht hc hv (by omega) e
theorem z_lcO {S1 : α → MS} {c : α → Option Bool} {v : α → Option β} {r : List β} (ei : mi s h = ok (.st (xs.map f)) h1) (hl : xs.length ≤ 400000) (ht : ∀ x, tg (f x) (wipeM s vs) = some (S1 x)) (hc : ∀ x b, c x = some b → cd (S1 x) h1 = ok b h1) (hv : ∀ x y, v x = some y → el (S1 x) h1 = ok (g y) h1) (e : lcO c v xs = some r) : lcM mi vs tg cd el s h = ok (r.map g) h1 := by
  rw [l_st ei, lcS_O ht hc hv (acc := []) (by show 0 + _ ≤ _; omega) e, List.nil_append]
theorem lcS_W {S1 : α → MS} {c : σ → α → Option (Option β × σ)} {s0 : MS} (Rel : σ → MH → Prop) (ht : ∀ x, tg (f x) s0 = some (S1 x)) (hc : ∀ a x h r, Rel a h → c a x = some r → ∃ h1 h2, (∃ b, cd (S1 x) h = ok b h1 ∧ (match r.1 with
      | some y => b = true ∧ el (S1 x) h1 = ok (g y) h2
      | none => b = false ∧ h2 = h1)) ∧ Rel r.2 h2) :
    ∀ {xs : List α} {r : List β × σ} {acc : List MV} {a : σ} {h : MH}, Rel a h → acc.length + xs.length ≤ 400000 → lcW c xs a = some r → ∃ h2, lcS tg cd el s0 (xs.map f) acc h = ok (acc ++ r.1.map g) h2 ∧ Rel r.2 h2
  | [], r, acc, a, h, ra, _, e => by
    cases e
    refine ⟨h, ?_, ra⟩
    show ok acc h = _
    rw [List.map_nil, List.append_nil]
  | x :: xs, r, acc, a, h, ra, hl, e => by
    obtain ⟨o, e1, e⟩ := obind e
    obtain ⟨r2, e3, e4⟩ := Option.map_eq_some_iff.mp e
    rw [List.length_cons] at hl
    obtain ⟨h1, h2, ⟨b, e5, e6⟩, rb⟩ := hc a x h o ra e1
    rw [List.map_cons]
    unfold lcS
    rw [ht x]
    dsimp only
    rw [e5, bnd_ok]
    subst e4
    obtain ⟨o1, o2⟩ := o
    cases o1 with
    | some y =>
      obtain ⟨e7, e8⟩ := e6
      obtain ⟨h3, e9, rc⟩ := lcS_W Rel ht hc (acc := acc ++ [g y]) rb (by rw [List.length_append]; show _ + 1 + _ ≤ _; omega) e3
      refine ⟨h3, ?_, rc⟩
      rw [if_pos e7, e8, bnd_ok, if_pos (by show _ < 1000000; omega), e9, List.append_assoc]
      rfl
    | none =>
      obtain ⟨e7, e8⟩ := e6
      subst e8
      obtain ⟨h3, e9, rc⟩ := lcS_W Rel ht hc (acc := acc) rb (by omega) e3
      refine ⟨h3, ?_, rc⟩
      rw [if_neg (by rw [e7]; decide), e9]
      rfl
theorem z_lcW {S1 : α → MS} {c : σ → α → Option (Option β × σ)} (Rel : σ → MH → Prop) {r : List β × σ} {a0 : σ} (ei : mi s h = ok (.st (xs.map f)) h1) (hl : xs.length ≤ 400000) (ht : ∀ x, tg (f x) (wipeM s vs) = some (S1 x)) (hc : ∀ a x h r, Rel a h → c a x = some r → ∃ h1 h2, (∃ b, cd (S1 x) h = ok b h1 ∧ (match r.1 with
      | some y => b = true ∧ el (S1 x) h1 = ok (g y) h2
      | none => b = false ∧ h2 = h1)) ∧ Rel r.2 h2) (r0 : Rel a0 h1) (e : lcW c xs a0 = some r) : ∃ h2, lcM mi vs tg cd el s h = ok (r.1.map g) h2 ∧ Rel r.2 h2 := by
  obtain ⟨h2, e2, r2⟩ := lcS_W Rel ht hc (acc := []) r0 (by show 0 + _ ≤ _; omega) e
  refine ⟨h2, ?_, r2⟩
  rw [l_st ei, e2, List.nil_append]
end
theorem prs_cst {l : List (Nat × Nat)} : pairsOf (l.map prV) = some (l.map fun q => ((q.1 : Int), (q.2 : Int))) := by
  induction l with
  | nil => rfl
  | cons x l ih =>
    rw [List.map_cons]
    unfold pairsOf
    rw [ih]
    rfl
theorem srtPP_perm {l : List (Nat × Nat)} : (srtPP l).Perm l := by
  have := (srtB_perm (le := leP) (l.map fun q => ((q.1 : Int), (q.2 : Int)))).map fun q => (q.1.toNat, q.2.toNat)
  rw [List.map_map] at this
  have id1 : ((fun q : Int × Int => (q.1.toNat, q.2.toNat)) ∘ fun q : Nat × Nat => ((q.1 : Int), (q.2 : Int))) = id := funext fun q => rfl
  rw [id1, List.map_id] at this
  exact this
theorem z_srtPP {a : ME} {s : MS} {h h1 : MH} {y : MV} {xs : List (Nat × Nat)} (e1 : a s h = ok y h1) (q : lstOf h1 y = some (xs.map prV)) : bltL sortPF (consA a nilA) s h = ok ((srtPP xs).map prV) h1 := by
  unfold bltL
  rw [consA_ok e1 r_nil]
  show (match (lstOf h1 y).bind pairsOf with
    | some ps => ok ((srtB leP ps).map mvP) h1
    | none => none) = _
  rw [q, Option.bind_some, prs_cst]
  unfold srtPP
  rw [List.map_map]
  refine congrArg (fun z => ok z h1) ?_
  refine List.map_congr_left fun p hp => ?_
  obtain ⟨q, _, rfl⟩ := List.mem_map.mp ((srtB_perm (le := leP) (xs.map fun q => ((q.1 : Int), (q.2 : Int)))).mem_iff.mp hp)
  rfl
theorem ints_cst {l : List Nat} : intsOf (l.map nV) = some (l.map fun k : Nat => (k : Int)) := by
  induction l with
  | nil => rfl
  | cons x l ih =>
    rw [List.map_cons]
    unfold intsOf
    rw [ih]
    rfl
theorem srtN_perm {l : List Nat} : (srtN l).Perm l := by
  have := (srtB_perm (le := leI) (l.map fun k : Nat => (k : Int))).map Int.toNat
  rw [List.map_map] at this
  have id1 : (Int.toNat ∘ fun k : Nat => (k : Int)) = id := funext fun q => rfl
  rw [id1, List.map_id] at this
  exact this
theorem z_srtN {a : ME} {s : MS} {h h1 : MH} {y : MV} {xs : List Nat} (e1 : a s h = ok y h1) (q : lstOf h1 y = some (xs.map nV)) : bltL sortIF (consA a nilA) s h = ok ((srtN xs).map nV) h1 := by
  unfold bltL
  rw [consA_ok e1 r_nil]
  show (match (lstOf h1 y).bind intsOf with
    | some ps => ok ((srtB leI ps).map MV.int) h1
    | none => none) = _
  rw [q, Option.bind_some, ints_cst]
  unfold srtN
  rw [List.map_map]
  refine congrArg (fun z => ok z h1) ?_
  refine List.map_congr_left fun p hp => ?_
  obtain ⟨q, _, rfl⟩ := List.mem_map.mp ((srtB_perm (le := leI) (xs.map fun k : Nat => (k : Int))).mem_iff.mp hp)
  rfl
end Mi
set_option maxHeartbeats 2000000
namespace Mi
open PySem L2
theorem and_i {a b : Bool} (h : a = true) (h2 : b = true) : (a && b) = true := by rw [h, h2]; rfl
theorem clo_F {α : Type} {f : α → MV} (h : ∀ x, cloV 0 (f x) = true) {xs : List α} : cloV 0 (.fls (xs.map f)) = true := cloL_map h
theorem clo_V {α : Type} {f : α → MV} (h : ∀ x, cloV 0 (f x) = true) {xs : List α} : cloV 0 (.tup (xs.map f)) = true := cloL_map h
theorem clo_n : cloL 0 [] = true := rfl
theorem clo_c {x : MV} {xs : List MV} (h : cloV 0 x = true) (h2 : cloL 0 xs = true) : cloL 0 (x :: xs) = true := and_i h h2
theorem clo_t {xs : List MV} (h : cloL 0 xs = true) : cloV 0 (.tup xs) = true := h
theorem all_flat {α : Type} {f : α → MV} {xs : List α} (h : ∀ x, flatT (f x) = true) : (xs.map f).all flatT = true := by
  rw [List.all_map]
  exact List.all_eq_true.mpr fun x _ => h x
theorem cut_fr {F : MF} {xs : List MV} {v : MV} {h0 h : MH} {L : List Nat} (e : F xs h0 = ok v h) (fr : Fr h0 L h) (hv : cloV 0 v = true) (hc : ∀ l ∈ L, ∃ o, h[l]? = some o ∧ cloO 0 o = true) : cutF F xs h0 = ok v (h.take h0.length) := cut_eq e hv (fr.cutok hc) rfl
section
variable {α β σ : Type} {a b d : ME} {s : MS} {h h1 h2 h3 h4 : MH} {y : MV} {f : α → MV} {xs : List α} {i j p : Nat} {x : α} {t : MM Bool} {P : OutS → Prop} {m : MT}
theorem y_dyn {xs : List α} (e : a s h = ok (.ref p) h1) (w : h1[p]? = some (.lst (xs.map f))) : seqI a s h = ok (.dyn p (xs.length + 1)) h1 := by
  have := q_ref e w
  rwa [List.length_map] at this
section
variable {t u : MM Bool} {c c2 : Bool}
theorem y_andTt (e : t s h = ok c h1) (hc : c = true) (e2 : u s h1 = ok c2 h2) : andT t u s h = ok c2 h2 := by subst hc; exact r_and_t e e2
theorem y_andTf (e : t s h = ok c h1) (hc : c = false) : andT t u s h = ok false h1 := by subst hc; exact r_and_f e
theorem y_orTt (e : t s h = ok c h1) (hc : c = true) : orT t u s h = ok true h1 := by subst hc; exact r_or_t e
theorem y_orTf (e : t s h = ok c h1) (hc : c = false) (e2 : u s h1 = ok c2 h2) : orT t u s h = ok c2 h2 := by subst hc; exact r_or_f e e2
theorem y_orVt (e : a s h = ok (.bl c) h1) (hc : c = true) : orV a b s h = ok (.bl true) h1 := by
  subst hc
  unfold orV
  rw [e, bnd_ok]
  rfl
theorem y_orVf (e : a s h = ok (.bl c) h1) (hc : c = false) (e2 : b s h1 = ok y h2) : orV a b s h = ok y h2 := by
  subst hc
  unfold orV
  rw [e, bnd_ok]
  exact e2
end
theorem ints_map : ∀ {xs : List Int}, intsOf (xs.map MV.int) = some xs
  | [] => rfl
  | x :: xs => by
    rw [List.map_cons]
    unfold intsOf
    rw [ints_map]
    rfl
theorem sum_cast : ∀ {xs : List Nat}, (xs.map fun k : Nat => (k : Int)).sum = ((xs.sum : Nat) : Int)
  | [] => rfl
  | x :: xs => by
    rw [List.map_cons, List.sum_cons, List.sum_cons, sum_cast]
    omega
theorem y_sumI {xs : List Int} (e : a s h = ok y h1) (q : lstOf h1 y = some (xs.map MV.int)) : bltM sumF (consA a nilA) s h = ok (.int xs.sum) h1 := r_blt (consA_ok e r_nil) (by
  unfold sumF
  dsimp only
  rw [q, Option.bind_some, ints_map])
theorem y_sumN {xs : List Nat} (e : a s h = ok y h1) (q : lstOf h1 y = some (xs.map nV)) : bltM sumF (consA a nilA) s h = ok (nV xs.sum) h1 := r_blt (consA_ok e r_nil) (by
  unfold sumF
  dsimp only
  rw [q, Option.bind_some, ints_cst]
  dsimp only
  rw [sum_cast])
theorem callKM_ok {F : MF} {n k : Nat} {is : List Nat} {ds : List MV} {a kw : MM (List MV)} {xs zs : List MV} {y : MV} (e : a s h = ok xs h1) (e2 : kw s h1 = ok zs h2) (hl : xs.length = n ∧ zs.length = k) (e3 : F (pick is (xs ++ zs ++ ds)) h2 = ok y h3) : callKM F n k is ds a kw s h = ok y h3 := by
  unfold callKM
  rw [e, bnd_ok, e2, bnd_ok, if_pos hl, e3]
  rfl
end
def dGet {κ α : Type} [DecidableEq κ] (d : List (κ × α)) (k : κ) : Option α := (d.find? fun q => decide (q.1 = k)).map (·.2)
def dPut {κ α : Type} [DecidableEq κ] (d : List (κ × α)) (k : κ) (v : α) : List (κ × α) := if d.any (fun q => decide (q.1 = k)) = true then d.map fun q => if q.1 = k then (k, v) else q else d ++ [(k, v)]
section
variable {κ α : Type} [DecidableEq κ] {kf : κ → Key} {kt : κ → List Key} {g : α → MV} {d : List (κ × α)} {x : κ} {v : α} {s : MS} {h h1 h2 h3 h4 : MH} {a b c : ME} {p : Nat} {K : Type} [DecidableEq K]
theorem val_dGet {kf : κ → K} (inj : ∀ x y, kf x = kf y → x = y) : valM (d.map fun q => (kf q.1, g q.2)) (kf x) = (dGet d x).map g := by
  unfold dGet valM
  induction d with
  | nil => rfl
  | cons q d ih =>
    rw [List.map_cons, List.find?_cons, List.find?_cons]
    by_cases c : q.1 = x
    · rw [decide_eq_true c, decide_eq_true (show (kf q.1, g q.2).1 = kf x by rw [c])]
      rfl
    · rw [decide_eq_false c, decide_eq_false (show ¬ (kf q.1, g q.2).1 = kf x from fun e => c (inj _ _ e))]
      exact ih
theorem put_dPut {kf : κ → K} (inj : ∀ x y, kf x = kf y → x = y) : putM (d.map fun q => (kf q.1, g q.2)) (kf x) (g v) = (dPut d x v).map fun q => (kf q.1, g q.2) := by
  unfold putM dPut
  have ea : ((d.map fun q => (kf q.1, g q.2)).any fun q => decide (q.1 = kf x)) = d.any fun q => decide (q.1 = x) := by
    rw [List.any_map]
    congr 1
    funext q
    show decide (kf q.1 = kf x) = _
    rw [Bool.eq_iff_iff, decide_eq_true_iff, decide_eq_true_iff]
    exact ⟨inj _ _, fun e => by rw [e]⟩
  rw [ea]
  split
  · rw [List.map_map, List.map_map]
    refine List.map_congr_left fun q _ => ?_
    show (if kf q.1 = kf x then (kf q.1, g v) else (kf q.1, g q.2)) = (fun q : κ × α => (kf q.1, g q.2)) (if q.1 = x then (x, v) else q)
    by_cases c : q.1 = x
    · rw [if_pos (by rw [c]), if_pos c, c]
    · rw [if_neg (fun e => c (inj _ _ e)), if_neg c]
  · rw [List.map_append]
    rfl
theorem y_dget {d : List (Nat × α)} {i : Nat} (e1 : a s h = ok (.ref p) h1) (e2 : b s h1 = ok (nV i) h2) (w : h2[p]? = some (.dK (d.map fun q => (kyN q.1, g q.2)))) (q : dGet d i = some v) : opM dgetF a b s h = ok (g v) h2 := r_op e1 e2 (by
  unfold dgetF
  dsimp only
  rw [w]
  show (match valM (d.map fun q => (kyN q.1, g q.2)) (kyN i) with
      | some v => ok v h2
      | none => none) = _
  rw [val_dGet fun x y => kyN_inj, q]
  rfl)
theorem y_din {d : List (Nat × α)} {i : Nat} (e1 : a s h = ok (nV i) h1) (e2 : b s h1 = ok (.ref p) h2) (w : h2[p]? = some (.dK (d.map fun q => (kyN q.1, g q.2)))) : opM dinF a b s h = ok (.bl (dGet d i).isSome) h2 := r_op e1 e2 (by
  unfold dinF
  dsimp only
  rw [w]
  show ok (MV.bl (valM (d.map fun q => (kyN q.1, g q.2)) (kyN i)).isSome) h2 = _
  rw [val_dGet fun x y => kyN_inj, Option.isSome_map])
end
section
variable {α : Type} {f : α → MV} {xs : List α} {s : MS} {h h1 : MH} {a : ME} {y : MV} {p : Nat}
theorem enm_map : ∀ {xs : List α} {k : Nat}, enmOf k (xs.map f) = (xs.zipIdx k).map fun q => MV.tup [nV q.2, f q.1]
  | [], _ => rfl
  | x :: xs, k => by
    rw [List.map_cons, List.zipIdx_cons, List.map_cons]
    unfold enmOf
    rw [enm_map]
theorem enu_map : enmOf 0 (xs.map f) = (enu xs).map fun q => MV.tup [nV q.1, f q.2] := by
  unfold enu
  rw [enm_map, List.map_map]
  rfl
theorem y_enmV (e : a s h = ok (.tup (xs.map f)) h1) : enmI (consA a nilA) s h = ok (.st ((enu xs).map fun q => MV.tup [nV q.1, f q.2])) h1 := by
  unfold enmI
  rw [consA_ok e r_nil, bnd_ok, ← enu_map]
  rfl
end
end Mi
set_option maxHeartbeats 2000000
namespace Mi
open PySem L2
section
variable {σ ρ α β : Type}
theorem forO_inv {f : σ → α → Option σ} (I : Nat → σ → Prop) {xs : List α} {a0 : σ} (h0 : I 0 a0) (hs : ∀ i x a, xs[i]? = some x → I i a → ∃ b, f a x = some b ∧ I (i + 1) b) : ∃ b, forO f xs a0 = some b ∧ I xs.length b := by
  have go : ∀ (ys : List α) (k : Nat) (a : σ), (∀ i x, ys[i]? = some x → xs[k + i]? = some x) → I k a → ∃ b, forO f ys a = some b ∧ I (k + ys.length) b := by
    intro ys
    induction ys with
    | nil => exact fun k a _ ha => ⟨a, rfl, ha⟩
    | cons y ys ih =>
      intro k a hy ha
      obtain ⟨b, e, hb⟩ := hs k y a (hy 0 y rfl) ha
      obtain ⟨c, e2, hc⟩ := ih (k + 1) b (fun i x hx => by
        have := hy (i + 1) x hx
        rwa [show k + (i + 1) = k + 1 + i by omega] at this) hb
      refine ⟨c, ?_, by rw [List.length_cons, show k + (ys.length + 1) = k + 1 + ys.length by omega]; exact hc⟩
      unfold forO
      rw [e]
      exact e2
  have := go xs 0 a0 (fun i x hx => by rwa [Nat.zero_add]) h0
  rwa [Nat.zero_add] at this
theorem forO_mem {f : σ → α → Option σ} (I : σ → Prop) {xs : List α} {a0 : σ} (h0 : I a0) (hs : ∀ x ∈ xs, ∀ a, I a → ∃ b, f a x = some b ∧ I b) : ∃ b, forO f xs a0 = some b ∧ I b :=
  forO_inv (fun _ => I) h0 fun i x a hx ha => hs x (List.mem_of_getElem? hx) a ha
theorem forO_rng {f : σ → Nat → Option σ} (I : Nat → σ → Prop) {n : Nat} {a0 : σ} (h0 : I 0 a0) (hs : ∀ i a, i < n → I i a → ∃ b, f a i = some b ∧ I (i + 1) b) : ∃ b, forO f (List.range n) a0 = some b ∧ I n b := by
  have := forO_inv (f := f) (xs := List.range n) I h0 fun i x a hx ha => by
    have hi : i < (List.range n).length := (List.getElem?_eq_some_iff.mp hx).1
    rw [List.length_range] at hi
    rw [List.getElem?_range hi] at hx
    cases hx
    exact hs i a hi ha
  rwa [List.length_range] at this
theorem lcO_eq {c : α → Option Bool} {v : α → Option β} {c1 : α → Bool} {v1 : α → β} : ∀ {xs : List α}, (∀ x ∈ xs, c x = some (c1 x) ∧ (c1 x = true → v x = some (v1 x))) → lcO c v xs = some ((xs.filter c1).map v1)
  | [], _ => rfl
  | x :: xs, h => by
    obtain ⟨e1, e2⟩ := h x (List.mem_cons_self ..)
    unfold lcO
    rw [e1, Option.bind_some, lcO_eq (xs := xs) fun y hy => h y (List.mem_cons_of_mem _ hy)]
    cases hc : c1 x
    · rw [if_neg (by decide), List.filter_cons_of_neg (by rw [hc]; decide)]
    · rw [if_pos rfl, List.filter_cons_of_pos hc, e2 hc]
      rfl
theorem lcO_map {v : α → Option β} {v1 : α → β} {xs : List α} (h : ∀ x ∈ xs, v x = some (v1 x)) : lcO (fun _ => some true) v xs = some (xs.map v1) := by
  rw [lcO_eq (c1 := fun _ => true) (v1 := v1) fun x hx => ⟨rfl, fun _ => h x hx⟩, List.filter_eq_self.mpr fun _ _ => rfl]
theorem lcW_inv {f : σ → α → Option (Option β × σ)} (I : Nat → List β → σ → Prop) {xs : List α} {a0 : σ} (h0 : I 0 [] a0) (hs : ∀ i x acc a, xs[i]? = some x → I i acc a → ∃ o, f a x = some o ∧ I (i + 1) (acc ++ o.1.toList) o.2) : ∃ r, lcW f xs a0 = some r ∧ I xs.length r.1 r.2 := by
  have go : ∀ (ys : List α) (k : Nat) (acc : List β) (a : σ), (∀ i x, ys[i]? = some x → xs[k + i]? = some x) → I k acc a → ∃ r, lcW f ys a = some r ∧ I (k + ys.length) (acc ++ r.1) r.2 := by
    intro ys
    induction ys with
    | nil => exact fun k acc a _ ha => ⟨([], a), rfl, by rw [List.append_nil]; exact ha⟩
    | cons y ys ih =>
      intro k acc a hy ha
      obtain ⟨o, e, hb⟩ := hs k y acc a (hy 0 y rfl) ha
      obtain ⟨r, e2, hc⟩ := ih (k + 1) (acc ++ o.1.toList) o.2 (fun i x hx => by
        have := hy (i + 1) x hx
        rwa [show k + (i + 1) = k + 1 + i by omega] at this) hb
      refine ⟨(o.1.toList ++ r.1, r.2), ?_, by rw [List.length_cons, show k + (ys.length + 1) = k + 1 + ys.length by omega, ← List.append_assoc]; exact hc⟩
      unfold lcW
      rw [e]
      dsimp only [Option.bind_some]
      rw [e2]
      rfl
  have := go xs 0 [] a0 (fun i x hx => by rwa [Nat.zero_add]) h0
  rwa [Nat.zero_add, ] at this
theorem forR_inv {f : σ → α → Option (Lp σ ρ)} (I : Nat → σ → Prop) (R : ρ → Prop) {xs : List α} {a0 : σ} (h0 : I 0 a0) (hs : ∀ i x a, xs[i]? = some x → I i a → (∃ b, f a x = some (.nx b) ∧ I (i + 1) b) ∨ ∃ r, f a x = some (.rt r) ∧ R r) : (∃ b, forR f xs a0 = some (.nx b) ∧ I xs.length b) ∨ ∃ r, forR f xs a0 = some (.rt r) ∧ R r := by
  have go : ∀ (ys : List α) (k : Nat) (a : σ), (∀ i x, ys[i]? = some x → xs[k + i]? = some x) → I k a → (∃ b, forR f ys a = some (.nx b) ∧ I (k + ys.length) b) ∨ ∃ r, forR f ys a = some (.rt r) ∧ R r := by
    intro ys
    induction ys with
    | nil => exact fun k a _ ha => .inl ⟨a, rfl, ha⟩
    | cons y ys ih =>
      intro k a hy ha
      rcases hs k y a (hy 0 y rfl) ha with ⟨b, e, hb⟩ | ⟨r, e, hr⟩
      · rcases ih (k + 1) b (fun i x hx => by
          have := hy (i + 1) x hx
          rwa [show k + (i + 1) = k + 1 + i by omega] at this) hb with ⟨c, e2, hc⟩ | ⟨r, e2, hr⟩
        · refine .inl ⟨c, ?_, by rw [List.length_cons, show k + (ys.length + 1) = k + 1 + ys.length by omega]; exact hc⟩
          unfold forR
          rw [e]
          exact e2
        · refine .inr ⟨r, ?_, hr⟩
          unfold forR
          rw [e]
          exact e2
      · refine .inr ⟨r, ?_, hr⟩
        unfold forR
        rw [e]
        rfl
  have := go xs 0 a0 (fun i x hx => by rwa [Nat.zero_add]) h0
  rwa [Nat.zero_add] at this
theorem forR_find {f : Unit → α → Option (Lp Unit ρ)} (c : α → Bool) (g : α → ρ) : ∀ {xs : List α}, (∀ x ∈ xs, f () x = if c x = true then some (.rt (g x)) else some (.nx ())) → forR f xs () = match xs.find? c with
    | some x => some (.rt (g x))
    | none => some (.nx ())
  | [], _ => rfl
  | x :: xs, h => by
    unfold forR
    rw [h x (List.mem_cons_self ..), List.find?_cons]
    cases hc : c x
    · rw [if_neg (by decide)]
      exact forR_find c g fun y hy => h y (List.mem_cons_of_mem _ hy)
    · rw [if_pos rfl]
      rfl
theorem lpB_nx {o : Option (Lp σ ρ)} {k : σ → Option β} {kr : ρ → Option β} {a : σ} (e : o = some (.nx a)) : lpB o k kr = k a := by rw [e]; rfl
theorem lpB_rt {o : Option (Lp σ ρ)} {k : σ → Option β} {kr : ρ → Option β} {r : ρ} (e : o = some (.rt r)) : lpB o k kr = kr r := by rw [e]; rfl
theorem whO_inv {c : σ → Option Bool} {f : σ → Option (Lp σ ρ)} (I : σ → Prop) (mu : σ → Nat) (hs : ∀ a, I a → ∃ b, c a = some b ∧ (b = true → ∃ a1, f a = some (.nx a1) ∧ I a1 ∧ mu a1 < mu a)) : ∀ {n : Nat} {a0 : σ}, I a0 → mu a0 < n → ∃ b, whO c f n a0 = some (.nx b) ∧ I b ∧ c b = some false
  | 0, a0, _, h => by omega
  | n + 1, a0, h0, hm => by
    obtain ⟨b, e, k⟩ := hs a0 h0
    unfold whO
    rw [e, Option.bind_some]
    cases b
    · rw [if_neg (by decide)]
      exact ⟨a0, rfl, h0, e⟩
    · obtain ⟨a1, e1, h1, m1⟩ := k rfl
      rw [if_pos rfl, e1]
      exact whO_inv I mu hs h1 (by omega)
theorem dGet_put [DecidableEq α] {d : List (α × β)} {k x : α} {v : β} : dGet (dPut d k v) x = if x = k then some v else dGet d x := by
  unfold dGet dPut
  split
  · rename_i h
    rw [List.find?_map]
    induction d with
    | nil => simp at h
    | cons q d ih =>
      by_cases c : q.1 = k
      · rw [List.find?_cons]
        show Option.map _ (Option.map _ (match decide ((if q.1 = k then (k, v) else q).1 = x) with | true => some q | false => d.find? _)) = _
        rw [if_pos c]
        by_cases c2 : x = k
        · rw [decide_eq_true c2.symm, if_pos c2]
          show some (if q.1 = k then (k, v) else q).2 = _
          rw [if_pos c]
        · rw [decide_eq_false (fun e => c2 e.symm), if_neg c2, List.find?_cons, decide_eq_false (show ¬ q.1 = x from fun e => c2 (by rw [← e, c]))]
          dsimp only
          clear ih h
          induction d with
          | nil => rfl
          | cons r d ih =>
            rw [List.find?_cons, List.find?_cons]
            by_cases c3 : r.1 = k
            · rw [show ((fun q : α × β => decide (q.1 = x)) ∘ fun q => if q.1 = k then (k, v) else q) r = false from by
                show decide ((if r.1 = k then (k, v) else r).1 = x) = false
                rw [if_pos c3]
                exact decide_eq_false fun e => c2 e.symm, decide_eq_false (show ¬ r.1 = x from fun e => c2 (by rw [← e, c3]))]
              exact ih
            · by_cases c4 : r.1 = x
              · rw [show ((fun q : α × β => decide (q.1 = x)) ∘ fun q => if q.1 = k then (k, v) else q) r = true from by
                  show decide ((if r.1 = k then (k, v) else r).1 = x) = true
                  rw [if_neg c3]
                  exact decide_eq_true c4, decide_eq_true c4]
                show some (if r.1 = k then (k, v) else r).2 = some r.2
                rw [if_neg c3]
              · rw [show ((fun q : α × β => decide (q.1 = x)) ∘ fun q => if q.1 = k then (k, v) else q) r = false from by
                  show decide ((if r.1 = k then (k, v) else r).1 = x) = false
                  rw [if_neg c3]
                  exact decide_eq_false c4, decide_eq_false c4]
                exact ih
      · have hd : d.any (fun q => decide (q.1 = k)) = true := by
          rw [List.any_cons, decide_eq_false c, Bool.false_or] at h
          exact h
        have := ih hd
        rw [List.find?_cons, List.find?_cons]
        by_cases c4 : q.1 = x
        · rw [show ((fun q : α × β => decide (q.1 = x)) ∘ fun q => if q.1 = k then (k, v) else q) q = true from by
            show decide ((if q.1 = k then (k, v) else q).1 = x) = true
            rw [if_neg c]
            exact decide_eq_true c4, decide_eq_true c4, if_neg (fun e => c (by rw [c4, e]))]
          show some (if q.1 = k then (k, v) else q).2 = some q.2
          rw [if_neg c]
        · rw [show ((fun q : α × β => decide (q.1 = x)) ∘ fun q => if q.1 = k then (k, v) else q) q = false from by
            show decide ((if q.1 = k then (k, v) else q).1 = x) = false
            rw [if_neg c]
            exact decide_eq_false c4, decide_eq_false c4]
          exact this
  · rename_i h
    rw [List.find?_append]
    by_cases c : x = k
    · have : d.find? (fun q => decide (q.1 = x)) = none := by
        rw [List.find?_eq_none]
        intro q hq e
        exact h (List.any_eq_true.mpr ⟨q, hq, by rw [← c]; exact e⟩)
      rw [this, if_pos c, c]
      simp
    · rw [if_neg c]
      have : [(k, v)].find? (fun q => decide (q.1 = x)) = none := by
        rw [List.find?_cons, decide_eq_false (show ¬ (k, v).1 = x from fun e => c e.symm)]
        rfl
      rw [this, Option.or_none]
theorem dPut_len [DecidableEq α] {d : List (α × β)} {k : α} {v : β} : (dPut d k v).length ≤ d.length + 1 := by
  unfold dPut
  split
  · rw [List.length_map]; omega
  · rw [List.length_append]; exact Nat.le_refl _
end
end Mi
set_option maxHeartbeats 2000000
namespace Mi
open PySem L2
inductive PV where
  | non | bl (b : Bool) | int (i : Int) | str (x : Str) | tup (xs : List PV)
mutual
def plv : PV → MV
  | .non => .non
  | .bl b => .bl b
  | .int i => .int i
  | .str x => .str x
  | .tup xs => .tup (plvs xs)
def plvs : List PV → List MV
  | [] => []
  | x :: xs => plv x :: plvs xs
end
theorem pvs_map : ∀ xs : List PV, plvs xs = xs.map plv
  | [] => rfl
  | x :: xs => by
    unfold plvs
    rw [pvs_map xs]
    rfl
def PV.intOf : PV → Option Int
  | .int i => some i
  | _ => none
def PV.ty : PV → Ty
  | .non => .non
  | .bl _ => .bool
  | .int _ => .int
  | .str _ => .str
  | .tup _ => .tuple
theorem ok_eq {α : Type} {r : Res α} {x y : α} {h : MH} (e : r = ok x h) (q : x = y) : r = ok y h := by rw [← q]; exact e
theorem pv_tup {xs : List PV} : MV.tup (xs.map plv) = plv (.tup xs) := by
  show _ = MV.tup (plvs _)
  rw [pvs_map]
theorem V_co {α β : Type} {f : α → MV} {g : β → MV} {c : α → β} {xs : List α} (h : ∀ x, f x = g (c x)) : MV.tup (xs.map f) = MV.tup ((xs.map c).map g) := by
  rw [List.map_map]
  exact congrArg MV.tup (List.map_congr_left fun x _ => h x)
theorem pv_V {α : Type} {f : α → MV} {c : α → PV} {xs : List α} (h : ∀ x, f x = plv (c x)) : MV.tup (xs.map f) = plv (.tup (xs.map c)) := (V_co h).trans pv_tup
section
variable {α : Type} {a b d : ME} {s : MS} {h h1 h2 h3 : MH} {f : α → MV} {xs : List α} {i j c : Nat}
end
section
variable {a b d : ME} {s : MS} {h h1 h2 h3 h4 : MH} {p : Nat} {x v : MV} {t : Str} {kvs : List (Key × MV)}
theorem cut_ref {F : MF} {xs : List MV} (e : F xs h = ok (.ref p) h1) (lo : h.length ≤ p) : cutF F xs h = ok (.ref p) h1 := by
  unfold cutF
  rw [e]
  dsimp only
  rw [if_neg]
  intro c
  have : decide (p < h.length) = true := c.1
  have := of_decide_eq_true this
  omega
theorem y_xget (e1 : a s h = ok (.ref p) h1) (e2 : b s h1 = ok (.str t) h2) (w : h2[p]? = some (.dK kvs)) (k : keyOf (.str t) = some (.inr t)) (q : valM kvs (.inr t) = some v) : opM dgetF a b s h = ok v h2 := r_op e1 e2 (by
  unfold dgetF
  dsimp only
  rw [w, k]
  dsimp only
  rw [q])
theorem y_xput (e : a s h = ok x h1) (e1 : b s h1 = ok (.ref p) h2) (e2 : d s h2 = ok (.str t) h3) (w : h3[p]? = some (.dK kvs)) (k : keyOf (.str t) = some (.inr t)) (hl : kvs.length < 1000000) (hh : h3.set p (.dK (putM kvs (.inr t) x)) = h4) : dputS a b d s h = some (.nx s h4) := by
  unfold dputS
  rw [e, bndS_ok, e1, bndS_ok, e2, bndS_ok]
  dsimp only
  rw [w, k]
  dsimp only
  rw [if_pos (show kvs.length < lim from hl), hh]
theorem pr_nil : pairsM [] s h = ok [] h := rfl
theorem pr_cons {m : ME} {ps : List (Str × ME)} {qs : List (Key × MV)} (e : m s h = ok x h1) (e2 : pairsM ps s h1 = ok qs h2) : pairsM ((t, m) :: ps) s h = ok ((.inr t, x) :: qs) h2 := by
  show ((m s h).bnd fun x h1 => (pairsM ps s h1).bnd fun kvs h2 => ok ((Sum.inr t, x) :: kvs) h2) = _
  rw [e, bnd_ok, e2]
  rfl
theorem y_disp {ps : List (Str × ME)} {qs : List (Key × MV)} (hp : p = h.length) (hh : h1 = h ++ [.dK (List.map (fun (q : Nat × Nat) => (kyN q.1, (nV q.2))) [])]) (e : pairsM ps s h1 = ok qs h2) (w : h2[p]? = some (.dK (List.map (fun (q : Nat × Nat) => (kyN q.1, (nV q.2))) []))) (hl : qs.length ≤ 15) (hq : h2.set p (.dK (mergeM [] qs)) = h3) : dispM ps s h = ok (.ref p) h3 := by
  unfold dispM
  have hh' : h1 = h ++ [.dK []] := hh
  have w' : h2[h.length]? = some (.dK []) := by rw [← hp]; exact w
  rw [← hh', e, bnd_ok, w']
  dsimp only
  rw [if_pos hl, ← hp, hq]
end
end Mi
set_option maxHeartbeats 2000000
namespace Mi
open PySem L2
section
variable {α β : Type} {h h0 h1 h2 h3 h4 : MH} {b p q i j r : Nat} {R L : List Nat} {f : α → MV} {tr : List (List α)} {o : MO} {row : List α}
def Mx (h : MH) (b p : Nat) (R : List Nat) (f : α → MV) (tr : List (List α)) : Prop := h[p]? = some (.lst (R.map MV.ref)) ∧ R.length = tr.length ∧ (p :: R).Nodup ∧ (∀ r ∈ p :: R, b ≤ r) ∧ ∀ (i r : Nat) (row : List α), R[i]? = some r → tr[i]? = some row → h[r]? = some (.lst (row.map f))
theorem Mx.at (m : Mx h b p R f tr) (e : R[i]? = some r) : ∃ row, tr[i]? = some row ∧ h[r]? = some (.lst (row.map f)) := by
  obtain ⟨hi, e1⟩ := List.getElem?_eq_some_iff.mp e
  have hi2 : i < tr.length := by rw [← m.2.1]; exact hi
  exact ⟨_, List.getElem?_eq_getElem hi2, m.2.2.2.2 i r _ e (List.getElem?_eq_getElem hi2)⟩
theorem Mx.get (m : Mx h b p R f tr) (e : tr[i]? = some row) : ∃ r, R[i]? = some r ∧ h[r]? = some (.lst (row.map f)) := by
  obtain ⟨hi, e1⟩ := List.getElem?_eq_some_iff.mp e
  have hi2 : i < R.length := by rw [m.2.1]; exact hi
  exact ⟨_, List.getElem?_eq_getElem hi2, m.2.2.2.2 i _ _ (List.getElem?_eq_getElem hi2) e⟩
theorem Mx.lt (m : Mx h b p R f tr) : ∀ r ∈ p :: R, r < h.length := fun r hr => by
  rcases List.mem_cons.mp hr with e | e
  · rw [e]; exact g_lt m.1
  · obtain ⟨i, hi, e⟩ := List.getElem_of_mem e
    obtain ⟨row, _, w⟩ := m.at (i := i) (r := r) (by rw [← e]; exact List.getElem?_eq_getElem hi)
    exact g_lt w
theorem Mx.new (m : Mx h b p R f tr) (e : q = h.length) : q ∉ p :: R := fun hq => by
  have := m.lt q hq
  omega
theorem Mx.set (m : Mx h b p R f tr) (n : q ∉ p :: R) : Mx (h.set q o) b p R f tr := by
  obtain ⟨m1, m2, m3, m4, m5⟩ := m
  refine ⟨g_ne m1 fun e => n (by rw [e]; exact List.mem_cons_self ..), m2, m3, m4, fun i r row e1 e2 => g_ne (m5 i r row e1 e2) fun e => n ?_⟩
  rw [e]
  exact List.mem_cons_of_mem _ (List.mem_of_getElem? e1)
theorem Mx.app (m : Mx h b p R f tr) {g : MH} : Mx (h ++ g) b p R f tr := by
  obtain ⟨m1, m2, m3, m4, m5⟩ := m
  exact ⟨g_ap m1, m2, m3, m4, fun i r row e1 e2 => g_ap (m5 i r row e1 e2)⟩
theorem Mx.fr (m : Mx h b p R f tr) (k : Fr h L h1) (n : ∀ l ∈ L, l ∉ p :: R) : Mx h1 b p R f tr := by
  obtain ⟨m1, m2, m3, m4, m5⟩ := m
  refine ⟨k.get m1 fun hl => n _ hl (List.mem_cons_self ..), m2, m3, m4, fun i r row e1 e2 => k.get (m5 i r row e1 e2) fun hl => n _ hl ?_⟩
  exact List.mem_cons_of_mem _ (List.mem_of_getElem? e1)
theorem Mx.keep (m : Mx h b p R f tr) (k : ∀ q ∈ p :: R, h1[q]? = h[q]?) : Mx h1 b p R f tr := by
  obtain ⟨m1, m2, m3, m4, m5⟩ := m
  exact ⟨(k _ (List.mem_cons_self ..)).trans m1, m2, m3, m4, fun i r row e1 e2 => (k _ (List.mem_cons_of_mem _ (List.mem_of_getElem? e1))).trans (m5 i r row e1 e2)⟩
theorem nd_at {R : List Nat} (nd : R.Nodup) {i j r : Nat} (e1 : R[i]? = some r) (e2 : R[j]? = some r) : i = j := by
  obtain ⟨hi, e1⟩ := List.getElem?_eq_some_iff.mp e1
  obtain ⟨hj, e2⟩ := List.getElem?_eq_some_iff.mp e2
  have p := List.pairwise_iff_getElem.mp nd
  rcases Nat.lt_trichotomy i j with c | c | c
  · exact absurd (e1.trans e2.symm) (p i j hi hj c)
  · exact c
  · exact absurd (e2.trans e1.symm) (p j i hj hi c)
theorem Mx.put (m : Mx h b p R f tr) (e : R[i]? = some r) : Mx (h.set r (.lst (row.map f))) b p R f (tr.set i row) := by
  obtain ⟨m1, m2, m3, m4, m5⟩ := m
  have nd := List.nodup_cons.mp m3
  have hr := List.mem_of_getElem? e
  refine ⟨g_ne m1 fun e2 => nd.1 (by rw [← e2]; exact hr), by rw [List.length_set]; exact m2, m3, m4, fun k u row2 e1 e2 => ?_⟩
  by_cases c : k = i
  · subst c
    rw [e] at e1
    cases e1
    have hi : k < tr.length := by rw [← m2]; exact (List.getElem?_eq_some_iff.mp e).1
    rw [List.getElem?_set_self hi] at e2
    cases e2
    have : ∃ x, h[r]? = some x := ⟨_, m5 k r _ e (List.getElem?_eq_getElem hi)⟩
    obtain ⟨x, hx⟩ := this
    exact g_eq hx
  · rw [List.getElem?_set_ne (fun z => c z.symm)] at e2
    refine g_ne (m5 k u row2 e1 e2) fun z => c ?_
    rw [← z] at e1
    exact nd_at nd.2 e1 e
theorem Mx.rep (m : Mx h b p R f tr) (hi : i < tr.length) (hq : q = h.length) (hb : b ≤ q) : Mx ((h ++ [MO.lst (row.map f)]).set p (MO.lst ((R.set i q).map MV.ref))) b p (R.set i q) f (tr.set i row) := by
  have lt := m.lt
  obtain ⟨m1, m2, m3, m4, m5⟩ := m
  have nd := List.nodup_cons.mp m3
  have qn : q ∉ R := fun z => by have := lt q (List.mem_cons_of_mem _ z); omega
  have qp : q ≠ p := fun z => by have := lt p (List.mem_cons_self ..); omega
  have iR : i < R.length := by rw [m2]; exact hi
  refine ⟨g_eq (g_ap m1), by rw [List.length_set, List.length_set]; exact m2, List.nodup_cons.mpr ⟨fun z => ?_, ?_⟩, fun r hr => ?_, fun k u row2 e1 e2 => ?_⟩
  · rcases List.mem_or_eq_of_mem_set z with z | z
    · exact nd.1 z
    · exact qp z.symm
  · rw [List.nodup_iff_pairwise_ne, List.pairwise_iff_getElem]
    have pw := List.pairwise_iff_getElem.mp nd.2
    intro a c ha hc hac
    rw [List.length_set] at ha hc
    rw [List.getElem_set, List.getElem_set]
    split
    · split
      · omega
      · exact fun z => qn (by rw [z]; exact List.getElem_mem _)
    · split
      · exact fun z => qn (by rw [← z]; exact List.getElem_mem _)
      · exact pw a c ha hc hac
  · rcases List.mem_cons.mp hr with z | z
    · exact m4 r (by rw [z]; exact List.mem_cons_self ..)
    · rcases List.mem_or_eq_of_mem_set z with z | z
      · exact m4 r (List.mem_cons_of_mem _ z)
      · rw [z]; exact hb
  · by_cases c : k = i
    · subst c
      rw [List.getElem?_set_self iR] at e1
      cases e1
      rw [List.getElem?_set_self hi] at e2
      cases e2
      exact g_ne (g_nw hq) fun z => qp z.symm
    · rw [List.getElem?_set_ne (fun z => c z.symm)] at e1 e2
      refine g_ne (g_ap (m5 k u row2 e1 e2)) fun z => nd.1 ?_
      rw [z]
      exact List.mem_of_getElem? e1
theorem Mx.top (m : Mx h b p R f tr) : h[p]? = some (.lst (R.map MV.ref)) := m.1
theorem Mx.low (m : Mx h b p R f tr) : ∀ r ∈ p :: R, b ≤ r := m.2.2.2.1
theorem at_nin (e : R[i]? = some r) (n : q ∉ p :: R) : r ≠ q := fun z => n (by rw [← z]; exact List.mem_cons_of_mem _ (List.mem_of_getElem? e))
theorem fp_rep (n : q ∉ p :: R) (hq : q < j) : q ∉ p :: R.set i j := fun z => by
  rcases List.mem_cons.mp z with z | z
  · exact n (by rw [z]; exact List.mem_cons_self ..)
  · rcases List.mem_or_eq_of_mem_set z with z | z
    · exact n (List.mem_cons_of_mem _ z)
    · omega
theorem lcS_refs {g : MG} {el : MM (List MV)} {s0 : MS} {S1 : β → MS} {e : β → MV} {v : β → Option (List α)} (ht : ∀ x, g (e x) s0 = some (S1 x)) (hv : ∀ x y h, v x = some y → el (S1 x) h = ok (y.map f) h) :
    ∀ {xs : List β} {rows : List (List α)} {acc : List MV} {h : MH}, acc.length + xs.length ≤ 400000 → lcO (fun _ => some true) v xs = some rows → lcS g yesT (refM el) s0 (xs.map e) acc h = ok (acc ++ (List.range' h.length xs.length).map MV.ref) (h ++ rows.map fun r => MO.lst (r.map f))
  | [], rows, acc, h, _, q => by
    cases q
    show ok acc h = ok (acc ++ []) (h ++ [])
    rw [List.append_nil, List.append_nil]
  | x :: xs, rows, acc, h, hl, q => by
    obtain ⟨t, q1, q⟩ := obind q
    cases q1
    rw [if_pos rfl] at q
    obtain ⟨y, q2, q⟩ := obind q
    obtain ⟨r2, q3, q4⟩ := Option.map_eq_some_iff.mp q
    subst q4
    rw [List.length_cons] at hl
    rw [List.map_cons]
    unfold lcS
    rw [ht x]
    dsimp only
    rw [show yesT (S1 x) h = ok true h from rfl, bnd_ok, if_pos rfl, r_ref (hv x y h q2), bnd_ok, if_pos (by show _ < 1000000; omega), lcS_refs ht hv (acc := acc ++ [MV.ref h.length]) (h := h ++ [MO.lst (y.map f)]) (by rw [List.length_append]; show _ + 1 + _ ≤ _; omega) q3, List.length_append, show (x :: xs).length = xs.length + 1 from rfl, List.range'_succ, List.append_assoc, List.append_assoc]
    rfl
theorem y_mx {mi : MM MIter} {vs : List Nat} {g : MG} {el : MM (List MV)} {s : MS} {S1 : β → MS} {e : β → MV} {v : β → Option (List α)} {xs : List β} {rows : List (List α)} (f : α → MV) (ei : mi s h = ok (.st (xs.map e)) h) (hl : xs.length ≤ 400000) (ht : ∀ x, g (e x) (wipeM s vs) = some (S1 x)) (hv : ∀ x y h, v x = some y → el (S1 x) h = ok (y.map f) h) (q : lcO (fun _ => some true) v xs = some rows) (hb : b ≤ h.length) :
    ∃ p R h1, refM (lcM mi vs g yesT (refM el)) s h = ok (.ref p) h1 ∧ Mx h1 b p R f rows ∧ Fr h [] h1 ∧ (∀ r ∈ p :: R, h.length ≤ r) := by
  have ll : rows.length = xs.length := by
    have go : ∀ {xs : List β} {rows : List (List α)}, lcO (fun _ => some true) v xs = some rows → rows.length = xs.length := by
      intro xs
      induction xs with
      | nil => intro rows q; cases q; rfl
      | cons x xs ih =>
        intro rows q
        obtain ⟨t, q1, q⟩ := obind q
        cases q1
        rw [if_pos rfl] at q
        obtain ⟨y, q2, q⟩ := obind q
        obtain ⟨r2, q3, q4⟩ := Option.map_eq_some_iff.mp q
        subst q4
        rw [List.length_cons, List.length_cons, ih q3]
    exact go q
  have e1 := lcS_refs ht hv (acc := []) (h := h) (by show 0 + _ ≤ _; omega) q
  rw [List.nil_append] at e1
  have mem : ∀ r, r ∈ List.range' h.length xs.length ↔ h.length ≤ r ∧ r < h.length + xs.length := fun r => List.mem_range'_1
  have H1 : ∀ i, i < h.length → (h ++ (rows.map fun r => MO.lst (r.map f)) ++ [MO.lst ((List.range' h.length xs.length).map MV.ref)])[i]? = h[i]? := fun i hi => by
    rw [List.append_assoc, List.getElem?_append_left hi]
  refine ⟨h.length + rows.length, List.range' h.length xs.length, h ++ (rows.map fun r => MO.lst (r.map f)) ++ [MO.lst ((List.range' h.length xs.length).map MV.ref)], (r_ref ((l_st ei).trans e1)).trans (by rw [List.length_append, List.length_map]), ⟨?_, ?_, List.nodup_cons.mpr ⟨fun z => ?_, List.nodup_range'⟩, fun r hr => ?_, fun i r row e2 e3 => ?_⟩, ⟨?_, fun i hi _ => H1 i hi⟩, fun r hr => ?_⟩
  · rw [List.getElem?_append_right (by rw [List.length_append, List.length_map]; omega), List.length_append, List.length_map, Nat.sub_self]
    rfl
  · rw [List.length_range', ll]
  · have := (mem _).mp z
    omega
  · rcases List.mem_cons.mp hr with z | z
    · omega
    · have := (mem _).mp z
      omega
  · obtain ⟨hi, e4⟩ := List.getElem?_eq_some_iff.mp e2
    rw [List.getElem_range', Nat.one_mul] at e4
    have hi2 : i < rows.length := (List.getElem?_eq_some_iff.mp e3).1
    rw [← e4, List.getElem?_append_left (by rw [List.length_append, List.length_map]; omega), List.getElem?_append_right (by omega), Nat.add_sub_cancel_left, List.getElem?_map, e3]
    rfl
  · rw [List.length_append, List.length_append]
    omega
  · rcases List.mem_cons.mp hr with z | z
    · omega
    · have := (mem _).mp z
      omega
theorem frzL_mx (hf : ∀ x, flatT (f x) = true) {n : Nat} : ∀ {R : List Nat} {tr : List (List α)} {h : MH}, R.Nodup → R.length = tr.length → (∀ (i r : Nat) (row : List α), R[i]? = some r → tr[i]? = some row → h[r]? = some (.lst (row.map f))) → ∃ h1, frzL (n + 2) (R.map MV.ref) h = some (tr.map fun r => MV.fls (r.map f), h1) ∧ (∀ q, q ∉ R → h1[q]? = h[q]?) ∧ h1.length = h.length
  | [], [], h, _, _, _ => ⟨h, by show frzL (n + 2) [] h = some ([], h); unfold frzL; rfl, fun _ _ => rfl, rfl⟩
  | [], _ :: _, _, _, l, _ => nomatch l
  | _ :: _, [], _, _, l, _ => nomatch l
  | r :: R, row :: tr, h, nd, l, w => by
    have nd := List.nodup_cons.mp nd
    have w0 := w 0 r row rfl rfl
    obtain ⟨h1, e1, k1, l1⟩ := frzL_mx hf (n := n) (R := R) (tr := tr) (h := h.set r .dead) nd.2 (Nat.succ.inj l) fun i q z e2 e3 => g_ne (w (i + 1) q z e2 e3) fun e => nd.1 (by rw [e]; exact List.mem_of_getElem? e2)
    refine ⟨h1, ?_, fun q hq => ?_, by rw [l1, List.length_set]⟩
    · rw [List.map_cons]
      unfold frzL
      have : frzV (n + 2) (.ref r) h = some (.fls (row.map f), h.set r .dead) := frz_lst (xs := row.map f) n w0 (all_flat hf)
      rw [this]
      dsimp only
      rw [e1]
      rfl
    · rw [k1 q fun z => hq (List.mem_cons_of_mem _ z), List.getElem?_set_ne fun e => hq (by rw [e]; exact List.mem_cons_self ..)]
theorem y_frzM {a : ME} {s : MS} (hf : ∀ x, flatT (f x) = true) (e : a s h = ok (.ref p) h1) (m : Mx h1 b p R f tr) : ∃ h2, frzM a s h = ok (.fls (tr.map fun r => MV.fls (r.map f))) h2 ∧ (∀ q, q ∉ p :: R → h2[q]? = h1[q]?) ∧ h2.length = h1.length := by
  obtain ⟨m1, m2, m3, m4, m5⟩ := m
  have nd := List.nodup_cons.mp m3
  obtain ⟨h2, e2, k2, l2⟩ := frzL_mx hf (n := 1) nd.2 m2 m5
  refine ⟨h2.set p .dead, ?_, fun q hq => ?_, by rw [List.length_set]; exact l2⟩
  · unfold frzM
    rw [e, bnd_ok]
    unfold frzV
    dsimp only
    rw [m1]
    dsimp only
    rw [e2]
  · rw [List.getElem?_set_ne fun z => hq (by rw [z]; exact List.mem_cons_self ..), k2 q fun z => hq (List.mem_cons_of_mem _ z)]
theorem Fr.keep (f : Fr h0 L h) (k : ∀ q, q ∉ p :: R → h1[q]? = h[q]?) (lo : ∀ r ∈ p :: R, h0.length ≤ r) (l : h1.length = h.length) : Fr h0 L h1 := ⟨by rw [l]; exact f.1, fun i hi hn => (k i fun z => by have := lo i z; omega).trans (f.2 i hi hn)⟩
section
variable {a d e : ME} {s : MS}
theorem y_mxrow (e1 : a s h = ok (.ref p) h1) (e2 : d s h1 = ok (nV i) h2) (m : Mx h2 b p R f tr) (er : R[i]? = some r) : opM ixF a d s h = ok (.ref r) h2 := y_ixg e1 e2 (sq_ref m.1) (by rw [atI_n, List.getElem?_map, er]; rfl)
theorem y_mxput {x : α} {er : ME} {row : List α} {zs : List MV} (e0 : e s h = ok (f x) h1) (e1 : a s h1 = ok (.ref r) h2) (e2 : d s h2 = ok (nV j) h3) (w : h3[r]? = some (.lst (row.map f))) (hj : j < row.length) (hh : h4 = h3.set r (.lst ((row.set j x).map f))) : subS e a d s h = some (.nx s h4) := y_put e0 e1 e2 w hj hh
theorem y_mxrep {k : MM (List MV)} {row : List α} (e0 : k s h = ok (row.map f) h1) (e1 : a s (h1 ++ [MO.lst (row.map f)]) = ok (.ref p) (h1 ++ [MO.lst (row.map f)])) (e2 : d s (h1 ++ [MO.lst (row.map f)]) = ok (nV i) (h1 ++ [MO.lst (row.map f)])) (m : Mx h1 b p R f tr) (hi : i < tr.length) (hq : q = h1.length) (hh : h2 = (h1 ++ [MO.lst (row.map f)]).set p (MO.lst ((R.set i q).map MV.ref))) : subS (refM k) a d s h = some (.nx s h2) := by
  refine t_sub ((r_ref e0).trans (by rw [← hq])) e1 e2 ((w_n (g_ap m.1) (by rw [List.length_map, m.2.1]; exact hi)).trans ?_)
  rw [hh, List.map_set]
end
end
end Mi
set_option maxHeartbeats 2000000
namespace Mi
open PySem L2
abbrev EX := Str × List (Str × PV)
inductive Rz (α : Type) where
  | ok (a : α) | ex (x : EX)
inductive Ot (σ ρ : Type) where
  | nx (a : σ) | rt (r : ρ) | ex (x : EX)
section
variable {σ ρ β : Type}
end
section
variable {s : MS} {h : MH} {x : EX} {a : Addr} {d : Option Addr} {i : Nat} {f : Str} {v : PV} {c : Bool}
end
section
variable {a b : ME} {s : MS} {h h1 h2 : MH} {i j : Nat}
end
section
variable {α : Type} {f : α → MV} {xs : List α} {a b c : ME} {s : MS} {h h1 h2 h3 : MH} {i j : Nat}
end
end Mi
set_option maxHeartbeats 4000000
namespace Mi
open PySem PySem.Spec PyProof.Rows L2 HT PySem.AutoSeq1
def stpIs (i k n : Nat) : List Nat := (List.range (if i < n then (n - i - 1) / k + 1 else 0)).map fun m => i + m * k
def stp {α : Type} (i k : Nat) (xs : List α) : List α := (stpIs i k xs.length).filterMap (xs[·]?)
theorem RVs.picks {K : PySem.W.Frag} {W : Wd} {xs : List MV} {vs : List V} (r : RVs K W xs vs) : ∀ js : List Nat, RVs K W (js.filterMap (xs[·]?)) (js.filterMap (vs[·]?))
  | [] => .nil
  | j :: js => by
    have t := RVs.picks r js
    rw [List.filterMap_cons, List.filterMap_cons]
    cases e : xs[j]? with
    | none =>
      have : vs[j]? = none := by
        rw [List.getElem?_eq_none_iff] at e ⊢
        rw [← r.length]
        exact e
      rw [this]
      exact t
    | some x =>
      obtain ⟨v, e2, rv⟩ := r.get e
      rw [e2]
      exact .cons rv t
theorem RVs.stp {K : PySem.W.Frag} {W : Wd} {xs : List MV} {vs : List V} (r : RVs K W xs vs) (i k : Nat) : RVs K W (Mi.stp i k xs) (Mi.stp i k vs) := by
  unfold Mi.stp
  rw [r.length]
  exact r.picks _
theorem vals_picks {xs : List V} {us : List Value} (r : Vals xs us) : ∀ js : List Nat, Vals (js.filterMap (xs[·]?)) (js.filterMap (us[·]?))
  | [] => .nil
  | j :: js => by
    have t := vals_picks r js
    rw [List.filterMap_cons, List.filterMap_cons]
    cases e : xs[j]? with
    | none =>
      rw [r.none_of e]
      exact t
    | some x =>
      obtain ⟨v, e2, rv⟩ := r.get e
      rw [e2]
      exact .cons rv t
theorem vals_stp {xs : List V} {us : List Value} (r : Vals xs us) (i k : Nat) : Vals (stp i k xs) (stp i k us) := by
  unfold stp
  rw [r.length]
  exact vals_picks r _
theorem stpIs_len {i k n : Nat} (hk : 1 ≤ k) : (stpIs i k n).length ≤ n := by
  unfold stpIs
  rw [List.length_map, List.length_range]
  split
  · have := Nat.div_le_self (n - i - 1) k
    omega
  · omega
theorem stp_len {α : Type} {i k : Nat} {xs : List α} (hk : 1 ≤ k) : (stp i k xs).length ≤ xs.length := Nat.le_trans (List.length_filterMap_le _ _) (stpIs_len hk)
theorem stp_map {α β : Type} {f : α → β} {i k : Nat} {xs : List α} : stp i k (xs.map f) = (stp i k xs).map f := by
  unfold stp
  rw [List.length_map, List.map_filterMap]
  congr 1
  funext j
  rw [List.getElem?_map]
section
variable {prog : Program} {w : World} {A : Around} {E : Value → Shared → Prop} {s : Shared}
theorem places_stp {i n k : Nat} (hk : 1 ≤ k) : Builtin.Slice.slicePlaces ((min i n : Nat) : Int) (n : Int) (k : Int) = if i < n then (n - i - 1) / k + 1 else 0 := by
  unfold Builtin.Slice.slicePlaces
  rw [if_pos (show (k : Int) > 0 by omega)]
  by_cases c : i < n
  · rw [if_pos c, if_pos (show ((min i n : Nat) : Int) < (n : Int) by omega)]
    have e1 : ((n : Int) - ((min i n : Nat) : Int) - 1) = ((n - i - 1 : Nat) : Int) := by omega
    obtain ⟨z, hz⟩ : ∃ z, z = (n - i - 1) / k := ⟨_, rfl⟩
    rw [e1, ← Int.natCast_ediv, ← hz]
    omega
  · rw [if_neg c, if_neg (show ¬ ((min i n : Nat) : Int) < (n : Int) by omega)]
    rfl
theorem adjust_stp {o : Option Int} {i n k : Nat} (hk : 1 ≤ k) (ho : o = some (i : Int) ∨ (o = none ∧ i = 0)) : Builtin.Slice.sliceAdjust o none (k : Int) (n : Int) = (((min i n : Nat) : Int), (n : Int)) := by
  unfold Builtin.Slice.sliceAdjust
  have c : ¬ (k : Int) < 0 := by omega
  rcases ho with rfl | ⟨rfl, rfl⟩
  · simp only [if_neg c]
    rw [if_neg (show ¬ (i : Int) < 0 by omega)]
    congr 1
    omega
  · simp only [if_neg c]
    congr 1
theorem sliceApplied_stp {sl : Addr} {vl vu vs : Value} {o : Option Int} {i k n : Nat} {Q : Int × Int × Nat → Shared → Prop} (hk : 1 ≤ k) (ho : o = some (i : Int) ∨ (o = none ∧ i = 0)) (hs : s.heap.IsSliceOf sl vl vu vs) (pl : IsPart vl o) (pu : IsPart vu none) (ps : IsPart vs (some (k : Int)))
    (h : Q (((min i n : Nat) : Int), (k : Int), if i < n then (n - i - 1) / k + 1 else 0) s) : wpAny (model prog w) A (Builtin.Slice.sliceApplied (.ref sl) (pure (n : Int))) Q E s := by
  obtain ⟨os, hos, hcs, hds⟩ := id hs
  unfold Builtin.Slice.sliceApplied Builtin.Slice.sliceFields
  refine wpAny_bind (wpAny_bind (wpAny_field hos hds (x := vl) rfl (wpAny_bind (wpAny_field hos hds (x := vu) rfl (wpAny_bind (wpAny_field hos hds (x := vs) rfl (wpAny_pure ?_)))))))
  refine wpAny_bind (slicePart_ ps ?_)
  show wpAny _ _ (if (((k : Int)) == 0) = true then _ else _) _ _ s
  rw [if_neg (by simp; omega)]
  refine wpAny_bind (slicePart_ pl (wpAny_bind (slicePart_ pu (wpAny_bind (wpAny_pure ?_)))))
  show wpAny _ _ (match Builtin.Slice.sliceAdjust o none (k : Int) (n : Int) with | (lo, hi) => pure (lo, (k : Int), Builtin.Slice.slicePlaces lo hi (k : Int))) _ _ s
  rw [adjust_stp hk ho]
  show wpAny _ _ (pure (((min i n : Nat) : Int), (k : Int), Builtin.Slice.slicePlaces ((min i n : Nat) : Int) (n : Int) (k : Int))) _ _ s
  rw [places_stp hk]
  exact wpAny_pure h
theorem pick_stp (xs : Array Value) (i k : Nat) : ((List.range (if i < xs.size then (xs.size - i - 1) / k + 1 else 0)).filterMap fun (m : Nat) => xs[(((min i xs.size : Nat) : Int) + (m : Int) * (k : Int)).toNat]?).toArray = (stp i k xs.toList).toArray := by
  unfold stp stpIs
  rw [List.filterMap_map, Array.length_toList]
  congr 1
  by_cases c : i < xs.size
  · rw [if_pos c]
    congr 1
    funext m
    have : (((min i xs.size : Nat) : Int) + (m : Int) * (k : Int)).toNat = i + m * k := by
      have e : min i xs.size = i := by omega
      rw [e, ← Int.natCast_mul, ← Int.natCast_add, Int.toNat_natCast]
    rw [this]
    show xs[i + m * k]? = xs.toList[i + m * k]?
    rw [Array.getElem?_toList]
  · rw [if_neg c]
    rfl
theorem slicePick_stp (xs : Array Value) {o : Option Int} {i k : Nat} (hk : 1 ≤ k) (ho : o = some (i : Int) ∨ (o = none ∧ i = 0)) : slicePick xs o none (some (k : Int)) = (stp i k xs.toList).toArray := by
  have kp : (k : Int) > 0 := by omega
  have e : sliceBounds o none (some (k : Int)) xs.size = (((min i xs.size : Nat) : Int), (xs.size : Int), (k : Int)) := by
    unfold sliceBounds
    rcases ho with rfl | ⟨rfl, rfl⟩
    · simp only [Option.getD_some, kp, if_true]
      rw [if_neg (show ¬ (i : Int) < 0 by omega)]
      congr 1
      omega
    · simp only [Option.getD_some, kp, if_true]
      congr 1
  unfold slicePick
  rw [e]
  unfold sliceRange stp stpIs
  rw [Array.length_toList]
  dsimp only
  rw [if_pos kp]
  congr 1
  by_cases c : i < xs.size
  · rw [if_pos c, if_pos (show ((min i xs.size : Nat) : Int) < (xs.size : Int) by omega)]
    have e1 : (((xs.size : Int) - ((min i xs.size : Nat) : Int) + (k : Int) - 1) / (k : Int)).toNat = (xs.size - i - 1) / k + 1 := by
      have e2 : (xs.size : Int) - ((min i xs.size : Nat) : Int) + (k : Int) - 1 = ((xs.size - i - 1 + k : Nat) : Int) := by omega
      rw [e2, ← Int.natCast_ediv, Int.toNat_natCast, Nat.add_div_right _ (by omega)]
    rw [e1]
    rw [List.filterMap_map, List.filterMap_map]
    congr 1
    funext m
    have : (((min i xs.size : Nat) : Int) + (k : Int) * (m : Int)).toNat = i + m * k := by
      have e : min i xs.size = i := by omega
      rw [e, ← Int.natCast_mul, ← Int.natCast_add, Int.toNat_natCast, Nat.mul_comm]
    show xs[(((min i xs.size : Nat) : Int) + (k : Int) * (m : Int)).toNat]? = xs.toList[i + m * k]?
    rw [this, Array.getElem?_toList]
  · rw [if_neg c, if_neg (show ¬ ((min i xs.size : Nat) : Int) < (xs.size : Int) by omega)]
    rfl
theorem getItem_tuple_stp {t sl : Addr} {items : Array Value} {vl vu vs : Value} {o : Option Int} {i k : Nat} {Q : Value → Shared → Prop} (hk : 2 ≤ k) (ho : o = some (i : Int) ∨ (o = none ∧ i = 0)) (ht : IsTup s.heap t items) (hs : s.heap.IsSliceOf sl vl vu vs) (pl : IsPart vl o) (pu : IsPart vu none) (ps : IsPart vs (some (k : Int)))
    (h : Q (.ref s.heap.objs.size) { s with heap := s.heap.push { cls := .type "tuple", data := .seq (stp i k items.toList).toArray } })
    (hsz : items.size ≤ sizeLine) : wpAny (model prog w) A (getItem (.ref t) (.ref sl)) Q E s := by
  have htake : sizeOk (.seq (stp i k items.toList).toArray) := by
    show (stp i k items.toList).length ≤ sizeLine
    have := stp_len (i := i) (xs := items.toList) (show 1 ≤ k by omega)
    rw [Array.length_toList] at this
    exact Nat.le_trans this hsz
  obtain ⟨os, hos, hcs, hds⟩ := id hs
  have hTs : s.TypeIs (.ref sl) "slice" := ⟨os, hos, hcs⟩
  unfold getItem
  try with_reducible refine wpAny_holding ?_
  first | refine wpAny_bind (wpAny_pure ?_) | skip
  refine wpAny_bind (wpAny_sequenceKey ht.typeIs (by decide) ?_)
  refine wpAny_bind (wpAny_callSpecial?_slot (name := Str.ofString "__getitem__") ht.typeIs PyProof.Rows.slot_tuple_getitem
    (wpAny_call_entry PyProof.Rows.slot_tuple_getitem ht.typeIs entry_tuple_getitem ?_ (args_tuple_getitem _ _)))
  show wpAny _ _ (Builtin.Tuple.tupleItemsOf (.ref t) >>= _) _ _ s
  refine wpAny_bind (tupleItemsOf_ ht ?_)
  refine wpAny_bind (wpAny_typeOf hTs ?_)
  rw [if_pos (by decide)]
  refine wpAny_bind (sliceApplied_stp (i := i) (by omega) ho hs pl pu ps ?_)
  have hno : ¬ ((((min i items.size : Nat) : Int) == 0 && (k : Int) == 1 && (if i < items.size then (items.size - i - 1) / k + 1 else 0) == items.size) = true) := by
    have : ¬ (k : Int) = 1 := by omega
    simp [this]
  show wpAny _ _ (if ((((min i items.size : Nat) : Int)) == 0 && (k : Int) == 1 && (if i < items.size then (items.size - i - 1) / k + 1 else 0) == items.size) = true then _ else _) _ _ s
  rw [if_neg hno, pick_stp]
  first
    | exact wpAny_bind (m := Builtin.Tuple.tupleExact _) (wpAny_newObj_type (wpAny_pure ⟨_, rfl, wpAny_pure h⟩) htake)
    | exact wpAny_bind (m := Builtin.Tuple.tupleExact _) (wpAny_newObj_type (wpAny_bind (wpAny_pure (wpAny_pure ⟨_, rfl, wpAny_pure h⟩))) htake)
    | exact wpAny_bind (wpAny_bind (m := Builtin.Tuple.tupleExact _) (wpAny_newObj_type (wpAny_pure (wpAny_pure ⟨_, rfl, wpAny_pure h⟩)) htake))
    | exact wpAny_bind (wpAny_bind (m := Builtin.Tuple.tupleExact _) (wpAny_newObj_type (wpAny_pure ⟨_, rfl, wpAny_pure h⟩) htake))
end
def tStpA (K : PySem.W.Frag) (te : TE) (tl : TO) (k : Nat) : TE := fun σ H Q => te σ H fun x H1 => tl σ H1 fun o H2 => ∃ a xs i, x = .ref a ∧ (o = some ((i : Nat) : Int) ∨ (o = none ∧ i = 0)) ∧ ((SqL K H2 a xs ∧ ∀ p, H2 p = none → Q (.ref p) (upd H2 p (.lst (stp i k xs)))) ∨ (SqT K H2 a xs ∧ ∀ p, H2 p = none → Q (.ref p) (upd H2 p (.tup (stp i k xs)))))
theorem pe_stpA {X : Cx} {e : Expr} {te : TE} {lo : Option Expr} {tl : TO} {k kk : Nat} {p1 p3 pos : Pos} (hk : 2 ≤ k) (he : PE X e te) (hl : PO X lo tl) : PE X (.Subscript e (.Slice lo none (some (.Constant (.int (k : Int)) kk p1)) p3) pos) (tStpA X.K te tl k) := by
  refine ⟨fun pins s σ H Q I h => ?_⟩
  refine Subscript_ (thn (he.run pins s σ H _ I h) fun v s1 ⟨x, H1, I1, r1, q1⟩ => ?_)
  have hst : PO X (some (.Constant (.int (k : Int)) kk p1)) (tPart (tC (.int (k : Int)))) := po_some pe_int
  refine wpAny_Slice (thn (hl.run pins s1 σ H1 _ I1 q1) fun vl s2 ⟨l, H2, I2, pl, q2⟩ => ?_)
  obtain ⟨a, xs, i, ex, ho, q⟩ := q2
  subst ex
  cases r1
  refine thn (po_none.run pins s2 σ H2 (fun o H3 => o = none ∧ H3 = H2) I2 ⟨rfl, rfl⟩) fun vu s3 ⟨u, H3, I3, pu, eu, e3⟩ => ?_
  subst eu e3
  refine thn (hst.run pins s3 σ H3 (fun o H4 => o = some (k : Int) ∧ H4 = H3) I3 ⟨_, rfl, rfl, rfl⟩) fun vs s4 ⟨o, H4, I4, ps, eo, e4⟩ => ?_
  subst eo e4
  have I5 : Inv X pins σ H4 { s4 with heap := s4.heap.push { cls := .type "slice", data := .fields #[vl, vu, vs] } } := I4.kept (t' := s4.toks) fun b ob q => Heap.get?_push_of_some _ q
  show wpAny (model X.prog X.w) X.A (subscriptTail e (.Slice lo none (some (.Constant (.int (k : Int)) kk p1)) p3) (.ref a) (.ref s4.heap.objs.size)) (EP X pins σ Q) X.xe { s4 with heap := s4.heap.push { cls := .type "slice", data := .fields #[vl, vu, vs] } }
  rcases q with ⟨hx, q⟩ | ⟨hx, q⟩
  · obtain ⟨its, r, ht, hz⟩ := I5.list hx
    have hlen := r.length
    refine tail_any (ops := [.ref a, .ref s4.heap.objs.size]) ht.isList.typeIs (PySem.slot_list_getitem.lookup) ?_ (by with_unfolding_all rfl)
    refine wpAny_getItem_list_slice ht.isList (Heap.IsSliceOf.new _ vl vu vs) pl pu ps (fun e => absurd (Option.some.inj e) (by omega)) ?_ (by rw [List.size_toArray]; omega)
    rw [slicePick_stp _ (by omega) ho]
    refine ⟨.ref _, _, I5.laid (t' := s4.toks) (o := .lst (stp i k xs)) (fun b ob q => Heap.get?_push_of_some _ q) (Nat.le_refl _) ?_, rfl, q _ (I5.hok.fresh (Nat.le_refl _))⟩
    exact ⟨Nat.le_trans (stp_len (by omega)) hz, _, 0, vals_stp r i k, Heap.get?_push_size _ rfl⟩
  · obtain ⟨its, r, ht, hz⟩ := I5.tuple hx
    have hlen := r.length
    refine tail_any (ops := [.ref a, .ref s4.heap.objs.size]) ht.typeIs (PyProof.Rows.slot_tuple_getitem.lookup) ?_ (by with_unfolding_all rfl)
    refine getItem_tuple_stp hk ho ht (Heap.IsSliceOf.new _ vl vu vs) pl pu ps ?_ (by rw [List.size_toArray]; omega)
    refine ⟨.ref _, _, I5.laid (t' := s4.toks) (o := .tup (stp i k xs)) (fun b ob q => Heap.get?_push_of_some _ q) (Nat.le_refl _) ?_, rfl, q _ (I5.hok.fresh (Nat.le_refl _))⟩
    exact ⟨Nat.le_trans (stp_len (by omega)) hz, _, vals_stp r i k, IsTup.new _ _⟩
def stpO : Option Int → Option Nat
  | none => some 0
  | some i => if 0 ≤ i then some i.toNat else none
theorem stpO_e {o : Option Int} {i : Nat} (e : stpO o = some i) : o = some (i : Int) ∨ (o = none ∧ i = 0) := by
  cases o with
  | none =>
    cases e
    exact .inr ⟨rfl, rfl⟩
  | some j =>
    have e : (if 0 ≤ j then some j.toNat else none) = some i := e
    by_cases c : 0 ≤ j
    · rw [if_pos c] at e
      cases e
      exact .inl (congrArg some (Int.toNat_of_nonneg c).symm)
    · rw [if_neg c] at e
      cases e
def stpT (m : ME) (lo : MM (Option Int)) (k : Nat) : ME := fun s h => (m s h).bnd fun x h1 => (lo s h1).bnd fun o h2 => match stpO o with
  | none => none
  | some i => match x with
    | .tup xs => ok (.tup (stp i k xs)) h2
    | x => match lstOf h2 x with
      | some xs => ok (.fls (stp i k xs)) h2
      | none => none
section
variable {X : Cx} {c : XC} {e : Expr} {lo : Option Expr} {pos : Pos}
theorem em_stp {m : ME} {ml : MM (Option Int)} {k kk : Nat} {q1 q3 : Pos} (hk : 2 ≤ k) (he : EM X c e m) (hl : PO X lo (tMO X.K c ml)) : EM X c (.Subscript e (.Slice lo none (some (.Constant (.int (k : Int)) kk q1)) q3) pos) (stpT m ml k) := pe_wk (pe_stpA hk he hl) fun σ H Q ⟨W, h, s, e, S, rs, p⟩ => by
  subst e
  refine ⟨W, h, s, rfl, S, rs, p.bnd fun W1 h1 x x1 S1 p1 v r1 => ?_⟩
  refine ⟨W1, h1, s, rfl, S1, rs.mono x1, p1.bnd fun W2 h2 o x2 S2 p2 => ?_⟩
  have r2 := r1.mono x2
  cases eo : stpO o with
  | none =>
    rw [eo] at p2
    exact p2.elim
  | some i =>
    rw [eo] at p2
    have ho := stpO_e eo
    have go : Pst X.K c (CV X.K Q) W2 (match lstOf h2 x with | some xs => ok (.fls (stp i k xs)) h2 | none => none) → ∃ a xs i, v = .ref a ∧ (o = some ((i : Nat) : Int) ∨ (o = none ∧ i = 0)) ∧ ((SqL X.K W2.H a xs ∧ ∀ p, W2.H p = none → Q (.ref p) (upd W2.H p (.lst (stp i k xs)))) ∨ (SqT X.K W2.H a xs ∧ ∀ p, W2.H p = none → Q (.ref p) (upd W2.H p (.tup (stp i k xs))))) := fun p3 => by
      cases hx : lstOf h2 x with
      | none =>
        rw [hx] at p3
        exact p3.elim
      | some xs =>
        rw [hx] at p3
        obtain ⟨q, vs, e1, e2, t⟩ := lst_sq S2 r2 hx
        exact ⟨q, vs, i, e1, ho, .inl ⟨e2, fun d hd => p3 (W2.put d _) (Ext.put S2 hd) (S2.put hd) (.ref d) (.fls (S2.fresh hd) upd_same ((t.stp i k).mono (Ext.put S2 hd)))⟩⟩
    cases x with
    | tup xs =>
      obtain ⟨q, vs, rfl, e2, t⟩ := tup_sq r2
      exact ⟨q, vs, i, rfl, ho, .inr ⟨e2, fun d hd => p2 (W2.put d _) (Ext.put S2 hd) (S2.put hd) (.ref d) (.tup (S2.fresh hd) upd_same ((t.stp i k).mono (Ext.put S2 hd)))⟩⟩
    | _ => exact go p2
end
end Mi
set_option maxHeartbeats 4000000
namespace Mi
open PySem PySem.Spec PyProof.Rows L2
def rSumT (K : PySem.W.Frag) : List V → Hp → VK → Prop := fun vs H Q => ∃ (a : Addr) (ns : List Int), vs = [V.ref a] ∧ SqT K H a (ns.map V.int) ∧ Q (.int ns.sum) H
theorem cr_sumT {X : Cx} (hc : X.calm = true) : CallR X (.builtin "sum") (rSumT X.K) := by
  intro pins s σ H vs us Q I r h
  obtain ⟨a, ns, rfl, hs, q⟩ := h
  obtain ⟨its, rv, hl, _⟩ := I.tuple hs
  rw [Vals.ref1 r]
  have hi := rv.ints
  obtain ⟨xs, hx⟩ := hi.allInts.items
  have hn : numsOf its.toArray.toList = ns := by rw [show its.toArray.toList = its from rfl, hi.numsOf]
  have hl : s.heap.IsTuple a its.toArray := hl
  rw [hx] at hl hn
  rw [nums_intItems] at hn
  refine PySem.W.ktm_sumG (I.ok.hd hc) hl fun h' tk t' hk => ?_
  refine ⟨.int _, H, I.kept hk, ⟨_, rfl⟩, ?_⟩
  rw [preSum_eq, List.take_of_length_le (by simp), hn]
  exact q
theorem cr_sumA {X : Cx} (hc : X.calm = true) : CallR X (.builtin "sum") (fun vs H Q => rSum X.K vs H Q ∨ rSumT X.K vs H Q) := CallR.or (cr_sum hc) (cr_sumT hc)
def sumAF (xs : List MV) (h : MH) : Res MV := match xs with
  | [.tup ys] => match intsOf ys with
    | some ns => ok (.int ns.sum) h
    | none => none
  | xs => sumF xs h
theorem cm_sumA {K : PySem.W.Frag} {c : XC} : CallM K c (fun vs H Q => rSum K vs H Q ∨ rSumT K vs H Q) sumAF := fun W h xs vs Q S r p => by
  unfold sumAF at p
  split at p
  · rename_i ys
    obtain ⟨v, rfl, r1⟩ := rvs_one r
    cases e : intsOf ys with
    | none =>
      rw [e] at p
      exact p.elim
    | some ns =>
      rw [e] at p
      obtain ⟨a, ws, rfl, hq, t⟩ := tup_sq r1
      exact .inr ⟨a, ns, rfl, by rw [← (ints_V t e).1]; exact hq, Pst.now p S _ (.int _)⟩
  · exact .inl (cm_sum W h _ vs Q S r p)
end Mi
set_option maxHeartbeats 2000000
namespace Mi
open PySem L2
def ltq (p q : Nat × Nat) : Prop := p.1 < q.1 ∨ (p.1 = q.1 ∧ p.2 < q.2)
instance (p q : Nat × Nat) : Decidable (ltq p q) := by unfold ltq; exact inferInstance
theorem tk_get {h1 : MH} {n l : Nat} {o : MO} (e : h1[l]? = some o) (hl : l < n) : (h1.take n)[l]? = some o := by
  rw [List.getElem?_take_of_lt hl]
  exact e
theorem Fr.tk {h0 h1 : MH} {L : List Nat} {n : Nat} (f : Fr h0 L h1) (hl : h0.length ≤ n) : Fr h0 L (h1.take n) := ⟨by
  rw [List.length_take]
  have := f.1
  omega, fun i hi hn => by
  rw [List.getElem?_take_of_lt (Nat.lt_of_lt_of_le hi hl)]
  exact f.2 i hi hn⟩
theorem W_cutLR {σ ρ : Type} {Rel : σ → MS → MH → Prop} {RR : ρ → MV → MH → Prop} {o : Lp σ ρ} {m : MT} {s : MS} {h : MH} (cut : ∀ b s1 h1, Rel b s1 h1 → Rel b s1 (h1.take h.length)) (k : ∃ u, m s h = some u ∧ LR Rel RR o u) : ∃ u, cutT m s h = some u ∧ LR Rel RR o u := by
  obtain ⟨u, e, r⟩ := k
  unfold cutT
  rw [e]
  cases o with
  | nx a =>
    obtain ⟨s1, h1, hu, r⟩ := r
    rcases hu with rfl | rfl
    · dsimp only
      split
      · exact ⟨_, rfl, _, _, .inl rfl, cut _ _ _ r⟩
      · exact ⟨_, rfl, _, _, .inl rfl, r⟩
    · dsimp only
      split
      · exact ⟨_, rfl, _, _, .inr rfl, cut _ _ _ r⟩
      · exact ⟨_, rfl, _, _, .inr rfl, r⟩
  | bk a =>
    obtain ⟨s1, h1, hu, r⟩ := r
    subst hu
    dsimp only
    split
    · exact ⟨_, rfl, _, _, rfl, cut _ _ _ r⟩
    · exact ⟨_, rfl, _, _, rfl, r⟩
  | rt r2 =>
    obtain ⟨v, h1, hu, r⟩ := r
    subst hu
    exact ⟨_, rfl, _, _, rfl, r⟩
section
variable {α β : Type} {a b : ME} {s : MS} {h h1 h2 : MH} {f : α → MV} {xs : List α} {k i : Nat}
theorem y_stpT (e : a s h = ok (.tup (xs.map f)) h1) : stpT a noO k s h = ok (.tup ((stp 0 k xs).map f)) h1 := by
  unfold stpT
  rw [e]
  show ok (MV.tup (stp 0 k (xs.map f))) h1 = _
  rw [stp_map]
theorem y_stpT_i (e : a s h = ok (.tup (xs.map f)) h1) (e2 : b s h1 = ok (nV i) h2) : stpT a (someO b) k s h = ok (.tup ((stp i k xs).map f)) h2 := by
  unfold stpT someO
  rw [e]
  show Res.bnd ((b s h1).bnd _) _ = _
  rw [e2]
  show (match stpO (some (i : Int)) with
    | none => none
    | some i => ok (MV.tup (stp i k (xs.map f))) h2) = _
  unfold stpO
  dsimp only
  rw [if_pos (Int.natCast_nonneg i), Int.toNat_natCast]
  show ok (MV.tup (stp i k (xs.map f))) h2 = _
  rw [stp_map]
def dcP (k : α → Nat) (v : α → β) (xs : List α) (d : List (Nat × β)) : List (Nat × β) := xs.foldl (fun d x => dPut d (k x) (v x)) d
theorem dcS_P {g : β → MV} {tg : MG} {ke ve : ME} {s0 : MS} {S1 : α → MS} {k : α → Nat} {v : α → β} (ht : ∀ x, tg (f x) s0 = some (S1 x)) (hk : ∀ x h, ke (S1 x) h = ok (nV (k x)) h) (hv : ∀ x h, ve (S1 x) h = ok (g (v x)) h) : ∀ (xs : List α) (d : List (Nat × β)) (H : MH), d.length + xs.length ≤ 400000 → dcS tg yesT ke ve s0 H.length (xs.map f) (H ++ [.dK (d.map fun q => (kyN q.1, g q.2))]) = ok (.ref H.length) (H ++ [.dK ((dcP k v xs d).map fun q => (kyN q.1, g q.2))])
  | [], _, _, _ => rfl
  | x :: xs, d, H, hl => by
    rw [List.length_cons] at hl
    rw [List.map_cons]
    unfold dcS
    rw [ht x]
    show Res.bnd (yesT (S1 x) _) _ = _
    rw [show ∀ s h, yesT s h = ok true h from fun _ _ => rfl, bnd_ok, if_pos rfl, hk, bnd_ok, hv, bnd_ok]
    have gl : (H ++ [MO.dK (d.map fun q => (kyN q.1, g q.2))])[H.length]? = some (.dK (d.map fun q => (kyN q.1, g q.2))) := by simp
    rw [gl]
    show (if (d.map fun q => (kyN q.1, g q.2)).length < lim then dcS tg yesT ke ve s0 H.length (xs.map f) ((H ++ [MO.dK (d.map fun q => (kyN q.1, g q.2))]).set H.length (.dK (putM (d.map fun q => (kyN q.1, g q.2)) (kyN (k x)) (g (v x))))) else none) = _
    rw [List.length_map, if_pos (by show _ < 1000000; omega), put_dPut fun x y => kyN_inj]
    have st : (H ++ [MO.dK (d.map fun q => (kyN q.1, g q.2))]).set H.length (.dK ((dPut d (k x) (v x)).map fun q => (kyN q.1, g q.2))) = H ++ [.dK ((dPut d (k x) (v x)).map fun q => (kyN q.1, g q.2))] := by
      rw [List.set_append_right _ _ (Nat.le_refl _), Nat.sub_self]
      rfl
    rw [st]
    have dl := dPut_len (d := d) (k := k x) (v := v x)
    exact dcS_P ht hk hv xs _ H (by omega)
theorem y_dcP {g : β → MV} {mi : MM MIter} {vs : List Nat} {tg : MG} {ke ve : ME} {S1 : α → MS} {k : α → Nat} {v : α → β} {p : Nat} (ei : mi s h = ok (.st (xs.map f)) h1) (hl : xs.length ≤ 400000) (ht : ∀ x, tg (f x) (wipeM s vs) = some (S1 x)) (hk : ∀ x h, ke (S1 x) h = ok (nV (k x)) h) (hv : ∀ x h, ve (S1 x) h = ok (g (v x)) h) (hp : p = h1.length) (hh : h2 = h1 ++ [.dK ((dcP k v xs []).map fun q => (kyN q.1, g q.2))]) : dcM mi vs tg yesT ke ve s h = ok (.ref p) h2 := by
  unfold dcM
  rw [ei, bnd_ok, hp, hh]
  exact dcS_P ht hk hv xs [] h1 (by show 0 + _ ≤ _; omega)
end
theorem y_sumTN {a : ME} {s : MS} {h h1 : MH} {xs : List Nat} (e : a s h = ok (.tup (xs.map nV)) h1) : bltM sumAF (consA a nilA) s h = ok (nV xs.sum) h1 := r_blt (consA_ok e r_nil) (by
  unfold sumAF
  dsimp only
  rw [ints_cst]
  dsimp only
  rw [sum_cast])
end Mi
set_option maxHeartbeats 2000000
namespace Mi.k59
open PySem L2
noncomputable section
def m_fixed_points : MT := (retS (bltM tupF (consA (flsM (lcM (rng1 (consA (opM ixF (varM 0) (cM (.int 0))) nilA)) [2] (one 2) (tstM (opM eqF (opM ixF (varM 1) (varM 2)) (varM 2))) (varM 2))) nilA)))
def f_fixed_points : MF := defM 2 3 m_fixed_points
theorem n_fixed_points : ∀ (xs : List MV) (h : MH), (f_fixed_points xs h).isSome = true → xs.length = 2 := fun _ _ e => defM_len e
theorem x_fixed_points {a0 a1 : MV} {h : MH} : defM 2 3 m_fixed_points [a0, a1] h = defK (m_fixed_points [some a0, some a1, none] h) := defM_K rfl
def m_induced : MT := (seqS (setS 2 (dcM (enmI (consA (varM 1) nilA)) [3, 4] (unp [3, 4]) yesT (varM 4) (varM 3)))
    (seqS (setS 5 (flsM (lcM (seqI (opM ixF (varM 0) (cM (.int 1)))) [6, 7] (unp [6, 7]) (andT (tstM (opM dinF (varM 6) (varM 2))) (tstM (opM dinF (varM 7) (varM 2)))) (tupM (consA (opM dgetF (varM 2) (varM 6)) (consA (opM dgetF (varM 2) (varM 7)) nilA))))))
    (retS (tupM (consA (bltM lenF (consA (varM 1) nilA)) (consA (bltM tupF (consA (varM 5) nilA)) nilA))))))
def f_induced : MF := cutF (defM 2 8 m_induced)
theorem n_induced : ∀ (xs : List MV) (h : MH), (f_induced xs h).isSome = true → xs.length = 2 := cut_len fun _ _ e => defM_len e
theorem x_induced {a0 a1 : MV} {h : MH} : defM 2 8 m_induced [a0, a1] h = defK (m_induced [some a0, some a1, none, none, none, none, none, none] h) := defM_K rfl
def b1_chain_counts : MT := (wipT [4, 5] (subS (opM addF (opM ixF (varM 3) (varM 5)) (opM ixF (varM 2) (varM 4))) (varM 3) (varM 5)))
def b2_chain_counts : MT := (cutT (wipT [3, 4, 5] (seqS (dropS (mthM appF (varM 1) (consA (bltM sumF (consA (varM 2) nilA)) nilA)))
    (seqS (setS 3 (refM (repL (flsM (lstM (consA (cM (.int 0)) nilA))) (opM ixF (varM 0) (cM (.int 0))))))
    (seqS (preW [4, 5] (forM (seqI (opM ixF (varM 0) (cM (.int 1)))) (unp [4, 5]) b1_chain_counts))
    (setS 2 (frzM (varM 3))))))))
def m_chain_counts : MT := (seqS (setS 1 (refM (lstM nilA)))
    (seqS (setS 2 (flsM (repL (flsM (lstM (consA (cM (.int 1)) nilA))) (opM ixF (varM 0) (cM (.int 0))))))
    (seqS (preW [3, 4, 5] (whlG (tstM (opM gtF (bltM sumF (consA (varM 2) nilA)) (cM (.int 0)))) b2_chain_counts 1000000))
    (retS (bltM tupF (consA (varM 1) nilA))))))
def f_chain_counts : MF := cutF (defM 1 6 m_chain_counts)
theorem n_chain_counts : ∀ (xs : List MV) (h : MH), (f_chain_counts xs h).isSome = true → xs.length = 1 := cut_len fun _ _ e => defM_len e
theorem x_chain_counts {a0 : MV} {h : MH} : defM 1 6 m_chain_counts [a0] h = defK (m_chain_counts [some a0, none, none, none, none, none] h) := defM_K rfl
def m_euler : MT := (seqS (setS 1 (callM f_chain_counts [] (consA (varM 0) nilA)))
    (retS (opM subF (bltM sumAF (consA (stpT (varM 1) noO 2) nilA)) (bltM sumAF (consA (stpT (varM 1) (someO (cM (.int 1))) 2) nilA)))))
def f_euler : MF := defM 1 2 m_euler
theorem n_euler : ∀ (xs : List MV) (h : MH), (f_euler xs h).isSome = true → xs.length = 1 := fun _ _ e => defM_len e
theorem x_euler {a0 : MV} {h : MH} : defM 1 2 m_euler [a0] h = defK (m_euler [some a0, none] h) := defM_K rfl
def m_lefschetz : MT := (retS (callM f_euler [] (consA (callM f_induced [] (consA (varM 0) (consA (callM f_fixed_points [] (consA (varM 0) (consA (varM 1) nilA))) nilA))) nilA)))
def f_lefschetz : MF := defM 2 2 m_lefschetz
theorem n_lefschetz : ∀ (xs : List MV) (h : MH), (f_lefschetz xs h).isSome = true → xs.length = 2 := fun _ _ e => defM_len e
theorem x_lefschetz {a0 a1 : MV} {h : MH} : defM 2 2 m_lefschetz [a0, a1] h = defK (m_lefschetz [some a0, some a1] h) := defM_K rfl
def b1_law_tape : MT := (wipT [2] (setS 1 (opM modF (bltM intF (consA (opM addF (opM addF (opM mulF (varM 1) (cM (.int 69621))) (bltM absF (consA (varM 2) nilA))) (cM (.int 3))) nilA)) (cM (.int 2147483647)))))
def m_law_tape : MT := (seqS (setS 1 (opM addF (cM (.int 11)) (bltM lenF (consA (varM 0) nilA))))
    (seqS (preW [2] (forM (seqI (varM 0)) (one 2) b1_law_tape))
    (retS (dispM [("cells", (flsM (bltL lstF (consA (varM 0) nilA)))), ("at", (cM (.int 0))), ("value", (cM (.int 0))), ("digits", (cM (.int 0))), ("mixed", (cM (.int 0))), ("salt", (varM 1))]))))
def f_law_tape : MF := cutF (defM 1 3 m_law_tape)
theorem n_law_tape : ∀ (xs : List MV) (h : MH), (f_law_tape xs h).isSome = true → xs.length = 1 := cut_len fun _ _ e => defM_len e
theorem x_law_tape {a0 : MV} {h : MH} : defM 1 3 m_law_tape [a0] h = defK (m_law_tape [some a0, none, none] h) := defM_K rfl
def m_law_load : MT := (seqS (setS 1 (opM ixF (opM dgetF (varM 0) (cM (.str "cells"))) (opM dgetF (varM 0) (cM (.str "at")))))
    (seqS (dputS (opM addF (opM dgetF (varM 0) (cM (.str "at"))) (cM (.int 1))) (varM 0) (cM (.str "at")))
    (ifS (tstM (opM eqF (opM modF (bltM intF (consA (varM 1) nilA)) (cM (.int 2))) (cM (.int 0)))) (seqS (dputS (opM divF (bltM absF (consA (varM 1) nilA)) (cM (.int 2))) (varM 0) (cM (.str "value")))
    (dputS (cM (.int 60)) (varM 0) (cM (.str "digits")))) (seqS (dputS (opM modF (bltM intF (consA (opM addF (opM addF (opM mulF (opM dgetF (varM 0) (cM (.str "salt"))) (cM (.int 16807))) (opM divF (bltM absF (consA (varM 1) nilA)) (cM (.int 2)))) (cM (.int 1))) nilA)) (cM (.int 2147483647))) (varM 0) (cM (.str "salt")))
    (dputS (cM (.int 9)) (varM 0) (cM (.str "mixed")))))))
def f_law_load : MF := defM 1 2 m_law_load
theorem n_law_load : ∀ (xs : List MV) (h : MH), (f_law_load xs h).isSome = true → xs.length = 1 := fun _ _ e => defM_len e
theorem x_law_load {a0 : MV} {h : MH} : defM 1 2 m_law_load [a0] h = defK (m_law_load [some a0, none] h) := defM_K rfl
def b1_law_draw : MT := (wipT [2, 3] (seqS (ifS (andT (tstM (opM gtF (opM dgetF (varM 0) (cM (.str "digits"))) (cM (.int 0)))) (tstM (opM gtF (opM dgetF (varM 0) (cM (.str "value"))) (cM (.int 1))))) (seqS (setS 3 (opM modF (bltM intF (consA (opM dgetF (varM 0) (cM (.str "value"))) nilA)) (varM 1)))
    (seqS (dputS (opM subF (opM dgetF (varM 0) (cM (.str "digits"))) (cM (.int 1))) (varM 0) (cM (.str "digits")))
    (seqS (dputS (opM divF (opM dgetF (varM 0) (cM (.str "value"))) (varM 1)) (varM 0) (cM (.str "value")))
    (retS (varM 3))))) nilS)
    (seqS (ifS (orT (tstM (opM gtF (opM dgetF (varM 0) (cM (.str "mixed"))) (cM (.int 0)))) (tstM (opM geF (opM dgetF (varM 0) (cM (.str "at"))) (bltM lenF (consA (opM dgetF (varM 0) (cM (.str "cells"))) nilA))))) brkS nilS)
    (dropS (callM f_law_load [] (consA (varM 0) nilA))))))
def m_law_draw : MT := (seqS (ifS (tstM (opM ltF (varM 1) (cM (.int 2)))) (retS (cM (.int 0))) nilS)
    (seqS (preW [2, 3] (forM (rng1 (consA (cM (.int 64)) nilA)) (one 2) b1_law_draw))
    (seqS (ifS (tstM (opM gtF (opM dgetF (varM 0) (cM (.str "mixed"))) (cM (.int 0)))) (dputS (opM subF (opM dgetF (varM 0) (cM (.str "mixed"))) (cM (.int 1))) (varM 0) (cM (.str "mixed"))) nilS)
    (seqS (dputS (opM modF (bltM intF (consA (opM addF (opM mulF (opM dgetF (varM 0) (cM (.str "salt"))) (cM (.int 48271))) (cM (.int 7))) nilA)) (cM (.int 2147483647))) (varM 0) (cM (.str "salt")))
    (retS (opM modF (opM modF (bltM intF (consA (opM addF (opM mulF (opM divF (opM dgetF (varM 0) (cM (.str "salt"))) (cM (.int 13))) (cM (.int 69621))) (cM (.int 5))) nilA)) (cM (.int 1000003))) (varM 1)))))))
def f_law_draw : MF := defM 2 4 m_law_draw
theorem n_law_draw : ∀ (xs : List MV) (h : MH), (f_law_draw xs h).isSome = true → xs.length = 2 := fun _ _ e => defM_len e
theorem x_law_draw {a0 a1 : MV} {h : MH} : defM 2 4 m_law_draw [a0, a1] h = defK (m_law_draw [some a0, some a1, none, none] h) := defM_K rfl
def b1_law_same (r : MF) : MT := (wipT [2] (ifS (notT (truM (callM r [] (consA (opM ixF (varM 0) (varM 2)) (consA (opM ixF (varM 1) (varM 2)) nilA))))) (retS (cM (.bl false))) nilS))
def m_law_same (r : MF) : MT := (seqS (ifS (truM (isiM [.tuple] (varM 1))) (seqS (ifS (orT (notT (truM (isiM [.tuple] (varM 0)))) (tstM (opM neF (bltM lenF (consA (varM 0) nilA)) (bltM lenF (consA (varM 1) nilA))))) (retS (cM (.bl false))) nilS)
    (seqS (preW [2] (forM (rng1 (consA (bltM lenF (consA (varM 1) nilA)) nilA)) (one 2) (b1_law_same r)))
    (retS (cM (.bl true))))) nilS)
    (retS (andV (isiM [.int] (varM 0)) (andV (notV (isiM [.bool] (varM 0))) (opM eqF (varM 0) (varM 1))))))
def fr_law_same : Nat → MF
  | 0 => fun _ _ => none
  | k + 1 => defM 2 3 (m_law_same (fr_law_same k))
def f_law_same : MF := fr_law_same 8
theorem nr_law_same : ∀ (k : Nat) (xs : List MV) (h : MH), (fr_law_same k xs h).isSome = true → xs.length = 2
  | 0, _, _, e => by cases e
  | _ + 1, _, _, e => defM_len e
theorem n_law_same : ∀ (xs : List MV) (h : MH), (f_law_same xs h).isSome = true → xs.length = 2 := nr_law_same _
theorem x_law_same (k : Nat) {a0 a1 : MV} {h : MH} : defM 2 3 (m_law_same (fr_law_same k)) [a0, a1] h = defK (m_law_same (fr_law_same k) [some a0, some a1, none] h) := defM_K rfl
def m_law_shuffled : MT := (seqS (setS 2 (refM (rgL (varM 1))))
    (retS (flsM (lcM (rng1 (consA (bltM lenF (consA (varM 2) nilA)) nilA)) [3] (one 3) yesT (mthM popAtF (varM 2) (consA (callM f_law_draw [] (consA (varM 0) (consA (bltM lenF (consA (varM 2) nilA)) nilA))) nilA))))))
def f_law_shuffled : MF := cutF (defM 2 4 m_law_shuffled)
theorem n_law_shuffled : ∀ (xs : List MV) (h : MH), (f_law_shuffled xs h).isSome = true → xs.length = 2 := cut_len fun _ _ e => defM_len e
theorem x_law_shuffled {a0 a1 : MV} {h : MH} : defM 2 4 m_law_shuffled [a0, a1] h = defK (m_law_shuffled [some a0, some a1, none, none] h) := defM_K rfl
def b1_law_closed : MT := (wipT [4, 5, 6] (seqS (setS 6 (opM ixF (varM 2) (varM 4)))
    (subS (cM (.bl true)) (varM 6) (varM 5))))
def b2_law_closed : MT := (wipT [4] (ifS (truM (opM ixF (opM ixF (varM 2) (varM 4)) (varM 7))) (subS (refM (lcM (rng1 (consA (varM 0) nilA)) [5] (one 5) yesT (orV (opM ixF (opM ixF (varM 2) (varM 4)) (varM 5)) (opM ixF (opM ixF (varM 2) (varM 7)) (varM 5))))) (varM 2) (varM 4)) nilS))
def b3_law_closed : MT := (wipT [4, 7] (preW [4] (forM (rng1 (consA (varM 0) nilA)) (one 4) b2_law_closed)))
def m_law_closed : MT := (seqS (setS 2 (refM (lcM (rng1 (consA (varM 0) nilA)) [3] (one 3) yesT (refM (repL (flsM (lstM (consA (cM (.bl false)) nilA))) (varM 0))))))
    (seqS (preW [4, 5, 6] (forM (seqI (varM 1)) (unp [4, 5]) b1_law_closed))
    (seqS (preW [4, 7] (forM (rng1 (consA (varM 0) nilA)) (one 7) b3_law_closed))
    (retS (frzM (varM 2))))))
def f_law_closed : MF := cutF (defM 2 8 m_law_closed)
theorem n_law_closed : ∀ (xs : List MV) (h : MH), (f_law_closed xs h).isSome = true → xs.length = 2 := cut_len fun _ _ e => defM_len e
theorem x_law_closed {a0 a1 : MV} {h : MH} : defM 2 8 m_law_closed [a0, a1] h = defK (m_law_closed [some a0, some a1, none, none, none, none, none, none] h) := defM_K rfl
def b1_law_drawn : MT := (wipT [6] (setS 4 (refM (catL (varM 4) (flsM (lstM (consA (tupM (consA (varM 6) (consA (opM addF (varM 5) (varM 6)) nilA))) (consA (tupM (consA (opM modF (bltM intF (consA (opM addF (varM 6) (cM (.int 1))) nilA)) (varM 5)) (consA (opM addF (varM 5) (varM 6)) nilA))) nilA))))))))
def b2_law_drawn : MT := (wipT [10] (seqS (ifS (andT (tstM (opM eqF (varM 3) (cM (.int 2)))) (andT (tstM (opM ltF (opM ixF (varM 8) (varM 9)) (opM ixF (varM 8) (varM 10)))) (tstM (opM gtF (callM f_law_draw [] (consA (varM 0) (consA (cM (.int 4)) nilA))) (cM (.int 0)))))) (dropS (mthM appF (varM 4) (consA (tupM (consA (varM 9) (consA (varM 10) nilA))) nilA))) nilS)
    (ifS (andT (tstM (opM ltF (varM 3) (cM (.int 2)))) (tstM (opM eqF (callM f_law_draw [] (consA (varM 0) (consA (varM 7) nilA))) (cM (.int 0))))) (dropS (mthM appF (varM 4) (consA (tupM (consA (varM 9) (consA (varM 10) nilA))) nilA))) nilS)))
def b3_law_drawn : MT := (wipT [9, 10] (preW [10] (forM (rng2 (consA (opM addF (varM 9) (cM (.int 1))) (consA (varM 2) nilA))) (one 10) b2_law_drawn)))
def m_law_drawn : MT := (seqS (setS 2 (callM f_law_draw [] (consA (varM 0) (consA (opM addF (varM 1) (cM (.int 1))) nilA))))
    (seqS (setS 3 (callM f_law_draw [] (consA (varM 0) (consA (cM (.int 4)) nilA))))
    (seqS (setS 4 (refM (lstM nilA)))
    (seqS (ifS (tstM (opM eqF (varM 3) (cM (.int 3)))) (seqS (setS 5 (opM divF (varM 2) (cM (.int 2))))
    (seqS (preW [6] (forM (rng1 (consA (varM 5) nilA)) (one 6) b1_law_drawn))
    (retS (callM f_law_closed [] (consA (varM 2) (consA (varM 4) nilA)))))) nilS)
    (seqS (setS 7 (opM addF (cM (.int 2)) (callM f_law_draw [] (consA (varM 0) (consA (cM (.int 4)) nilA)))))
    (seqS (setS 8 (flsM (repL (flsM (lstM (consA (cM (.int 0)) nilA))) (varM 2))))
    (seqS (ifS (tstM (opM eqF (varM 3) (cM (.int 2)))) (setS 8 (flsM (lcM (rng1 (consA (varM 2) nilA)) [6] (one 6) yesT (callM f_law_draw [] (consA (varM 0) (consA (cM (.int 4)) nilA)))))) nilS)
    (seqS (preW [9, 10] (forM (rng1 (consA (varM 2) nilA)) (one 9) b3_law_drawn))
    (retS (callM f_law_closed [] (consA (varM 2) (consA (varM 4) nilA))))))))))))
def f_law_drawn : MF := cutF (defM 2 11 m_law_drawn)
theorem n_law_drawn : ∀ (xs : List MV) (h : MH), (f_law_drawn xs h).isSome = true → xs.length = 2 := cut_len fun _ _ e => defM_len e
theorem x_law_drawn {a0 a1 : MV} {h : MH} : defM 2 11 m_law_drawn [a0, a1] h = defK (m_law_drawn [some a0, some a1, none, none, none, none, none, none, none, none, none] h) := defM_K rfl
def b1_law_told : MT := (wipT [3] (setS 2 (flsM (catL (varM 2) (flsM (lcM (rng1 (consA (bltM lenF (consA (varM 0) nilA)) nilA)) [4] (one 4) (truM (opM ixF (opM ixF (varM 0) (varM 3)) (varM 4))) (tupM (consA (opM ixF (varM 1) (varM 3)) (consA (opM ixF (varM 1) (varM 4)) nilA)))))))))
def m_law_told : MT := (seqS (setS 2 (flsM (lstM nilA)))
    (seqS (preW [3] (forM (rng1 (consA (bltM lenF (consA (varM 0) nilA)) nilA)) (one 3) b1_law_told))
    (retS (tupM (consA (bltM lenF (consA (varM 0) nilA)) (consA (bltM tupF (consA (flsM (bltL sortPF (consA (varM 2) nilA))) nilA)) nilA))))))
def f_law_told : MF := defM 2 5 m_law_told
theorem n_law_told : ∀ (xs : List MV) (h : MH), (f_law_told xs h).isSome = true → xs.length = 2 := fun _ _ e => defM_len e
theorem x_law_told {a0 a1 : MV} {h : MH} : defM 2 5 m_law_told [a0, a1] h = defK (m_law_told [some a0, some a1, none, none, none] h) := defM_K rfl
def b1_law_fits : MT := (wipT [4] (seqS (ifS (andT (truM (opM ixF (opM ixF (varM 0) (varM 4)) (varM 2))) (andT (tstM (opM neF (opM ixF (varM 1) (varM 4)) (varM 3))) (notT (truM (opM ixF (opM ixF (varM 0) (opM ixF (varM 1) (varM 4))) (varM 3)))))) (retS (cM (.bl false))) nilS)
    (ifS (andT (truM (opM ixF (opM ixF (varM 0) (varM 2)) (varM 4))) (andT (tstM (opM neF (opM ixF (varM 1) (varM 4)) (varM 3))) (notT (truM (opM ixF (opM ixF (varM 0) (varM 3)) (opM ixF (varM 1) (varM 4))))))) (retS (cM (.bl false))) nilS)))
def m_law_fits : MT := (seqS (preW [4] (forM (rng1 (consA (bltM lenF (consA (varM 0) nilA)) nilA)) (one 4) b1_law_fits))
    (retS (cM (.bl true))))
def f_law_fits : MF := defM 4 5 m_law_fits
theorem n_law_fits : ∀ (xs : List MV) (h : MH), (f_law_fits xs h).isSome = true → xs.length = 4 := fun _ _ e => defM_len e
theorem x_law_fits {a0 a1 a2 a3 : MV} {h : MH} : defM 4 5 m_law_fits [a0, a1, a2, a3] h = defK (m_law_fits [some a0, some a1, some a2, some a3, none] h) := defM_K rfl
def b1_law_map : MT := (wipT [4, 5, 6] (seqS (setS 5 (callM f_law_draw [] (consA (varM 0) (consA (varM 2) nilA))))
    (seqS (setS 6 (callM f_law_draw [] (consA (varM 0) (consA (varM 2) nilA))))
    (ifS (truM (callM f_law_fits [] (consA (varM 1) (consA (varM 3) (consA (varM 5) (consA (varM 6) nilA)))))) (subS (varM 6) (varM 3) (varM 5)) nilS))))
def m_law_map : MT := (seqS (setS 2 (bltM lenF (consA (varM 1) nilA)))
    (seqS (setS 3 (refM (rgL (varM 2))))
    (seqS (ifS (andT (tstM (opM gtF (varM 2) (cM (.int 0)))) (tstM (opM eqF (callM f_law_draw [] (consA (varM 0) (consA (cM (.int 3)) nilA))) (cM (.int 0))))) (setS 3 (refM (repL (flsM (lstM (consA (callM f_law_draw [] (consA (varM 0) (consA (varM 2) nilA))) nilA))) (varM 2)))) nilS)
    (seqS (preW [4, 5, 6] (forM (rng1 (consA (callM f_law_draw [] (consA (varM 0) (consA (opM addF (opM mulF (cM (.int 4)) (varM 2)) (cM (.int 1))) nilA))) nilA)) (one 4) b1_law_map))
    (retS (frzM (varM 3)))))))
def f_law_map : MF := cutF (defM 2 7 m_law_map)
theorem n_law_map : ∀ (xs : List MV) (h : MH), (f_law_map xs h).isSome = true → xs.length = 2 := cut_len fun _ _ e => defM_len e
theorem x_law_map {a0 a1 : MV} {h : MH} : defM 2 7 m_law_map [a0, a1] h = defK (m_law_map [some a0, some a1, none, none, none, none, none] h) := defM_K rfl
def b1_law_named : MT := (wipT [3] (subS (opM ixF (varM 0) (opM ixF (varM 1) (varM 3))) (varM 2) (opM ixF (varM 0) (varM 3))))
def m_law_named : MT := (seqS (setS 2 (refM (repL (flsM (lstM (consA (cM (.int 0)) nilA))) (bltM lenF (consA (varM 1) nilA)))))
    (seqS (preW [3] (forM (rng1 (consA (bltM lenF (consA (varM 1) nilA)) nilA)) (one 3) b1_law_named))
    (retS (bltM tupF (consA (varM 2) nilA)))))
def f_law_named : MF := cutF (defM 2 4 m_law_named)
theorem n_law_named : ∀ (xs : List MV) (h : MH), (f_law_named xs h).isSome = true → xs.length = 2 := cut_len fun _ _ e => defM_len e
theorem x_law_named {a0 a1 : MV} {h : MH} : defM 2 4 m_law_named [a0, a1] h = defK (m_law_named [some a0, some a1, none, none] h) := defM_K rfl
def b1_law_covers : MT := (wipT [3, 4, 6, 7] (seqS (setS 4 (flsM (lcM (rng1 (consA (varM 1) nilA)) [5] (one 5) (truM (opM ixF (opM ixF (varM 0) (varM 3)) (varM 5))) (varM 5))))
    (seqS (setS 6 (flsM (lcM (rng1 (consA (varM 1) nilA)) [5] (one 5) (truM (opM ixF (opM ixF (varM 0) (varM 5)) (varM 3))) (varM 5))))
    (seqS (setS 7 (flsM (lcM (seqI (varM 4)) [5] (one 5) (tstM (opM eqF (bltM lenF (consA (flsM (lcM (seqI (varM 4)) [8] (one 8) (truM (opM ixF (opM ixF (varM 0) (varM 8)) (varM 5))) (varM 8))) nilA)) (cM (.int 0)))) (varM 5))))
    (dropS (mthM appF (varM 2) (consA (flsM (catL (varM 7) (flsM (lcM (seqI (varM 6)) [5] (one 5) (tstM (opM eqF (bltM lenF (consA (flsM (lcM (seqI (varM 6)) [8] (one 8) (truM (opM ixF (opM ixF (varM 0) (varM 5)) (varM 8))) (varM 8))) nilA)) (cM (.int 0)))) (varM 5))))) nilA)))))))
def m_law_covers : MT := (seqS (setS 1 (bltM lenF (consA (varM 0) nilA)))
    (seqS (setS 2 (refM (lstM nilA)))
    (seqS (preW [3, 4, 6, 7] (forM (rng1 (consA (varM 1) nilA)) (one 3) b1_law_covers))
    (retS (frzM (varM 2))))))
def f_law_covers : MF := cutF (defM 1 9 m_law_covers)
theorem n_law_covers : ∀ (xs : List MV) (h : MH), (f_law_covers xs h).isSome = true → xs.length = 1 := cut_len fun _ _ e => defM_len e
theorem x_law_covers {a0 : MV} {h : MH} : defM 1 9 m_law_covers [a0] h = defK (m_law_covers [some a0, none, none, none, none, none, none, none, none] h) := defM_K rfl
def b1_law_signs : MT := (wipT [4, 6] (subS (opM subF (cM (.int 1)) (bltM sumF (consA (flsM (lcM (rng1 (consA (varM 1) nilA)) [3] (one 3) (truM (opM ixF (opM ixF (varM 0) (varM 3)) (varM 4))) (opM ixF (varM 5) (varM 3)))) nilA))) (varM 5) (varM 4)))
def m_law_signs : MT := (seqS (setS 1 (bltM lenF (consA (varM 0) nilA)))
    (seqS (setS 2 (flsM (bltL sortPF (consA (flsM (lcM (rng1 (consA (varM 1) nilA)) [4] (one 4) yesT (tupM (consA (bltM lenF (consA (flsM (lcM (rng1 (consA (varM 1) nilA)) [3] (one 3) (truM (opM ixF (opM ixF (varM 0) (varM 3)) (varM 4))) (varM 3))) nilA)) (consA (varM 4) nilA))))) nilA))))
    (seqS (setS 5 (refM (repL (flsM (lstM (consA (cM (.int 0)) nilA))) (varM 1))))
    (seqS (preW [4, 6] (forM (seqI (varM 2)) (unp [6, 4]) b1_law_signs))
    (retS (frzM (varM 5)))))))
def f_law_signs : MF := cutF (defM 1 7 m_law_signs)
theorem n_law_signs : ∀ (xs : List MV) (h : MH), (f_law_signs xs h).isSome = true → xs.length = 1 := cut_len fun _ _ e => defM_len e
theorem x_law_signs {a0 : MV} {h : MH} : defM 1 7 m_law_signs [a0] h = defK (m_law_signs [some a0, none, none, none, none, none, none] h) := defM_K rfl
def m_law_number : MT := (seqS (setS 2 (flsM (lcM (rng1 (consA (bltM lenF (consA (varM 0) nilA)) nilA)) [3] (one 3) (tstM (opM eqF (opM ixF (varM 1) (varM 3)) (varM 3))) (varM 3))))
    (retS (bltM sumF (consA (callM f_law_signs [] (consA (flsM (lcM (seqI (varM 2)) [3] (one 3) yesT (flsM (lcM (seqI (varM 2)) [4] (one 4) yesT (opM ixF (opM ixF (varM 0) (varM 3)) (varM 4)))))) nilA)) nilA))))
def f_law_number : MF := defM 2 5 m_law_number
theorem n_law_number : ∀ (xs : List MV) (h : MH), (f_law_number xs h).isSome = true → xs.length = 2 := fun _ _ e => defM_len e
theorem x_law_number {a0 a1 : MV} {h : MH} : defM 2 5 m_law_number [a0, a1] h = defK (m_law_number [some a0, some a1, none, none, none] h) := defM_K rfl
def b1_law_walked : MT := (wipT [5, 6, 7, 8] (seqS (setS 6 (callM f_law_draw [] (consA (varM 0) (consA (bltM lenF (consA (varM 1) nilA)) nilA))))
    (seqS (setS 7 (opM ixF (varM 2) (opM ixF (varM 3) (varM 6))))
    (ifS (tstM (opM gtF (bltM lenF (consA (varM 7) nilA)) (cM (.int 0)))) (seqS (setS 8 (opM ixF (varM 7) (callM f_law_draw [] (consA (varM 0) (consA (bltM lenF (consA (varM 7) nilA)) nilA)))))
    (ifS (truM (callM f_law_fits [] (consA (varM 1) (consA (varM 3) (consA (varM 6) (consA (varM 8) nilA)))))) (subS (varM 8) (varM 3) (varM 6)) nilS)) nilS))))
def m_law_walked : MT := (seqS (setS 3 (refM (bltL lstF (consA (varM 3) nilA))))
    (seqS (preW [5, 6, 7, 8] (forM (rng1 (consA (varM 4) nilA)) (one 5) b1_law_walked))
    (retS (frzM (varM 3)))))
def f_law_walked : MF := cutF (defM 5 9 m_law_walked)
theorem n_law_walked : ∀ (xs : List MV) (h : MH), (f_law_walked xs h).isSome = true → xs.length = 5 := cut_len fun _ _ e => defM_len e
theorem x_law_walked {a0 a1 a2 a3 a4 : MV} {h : MH} : defM 5 9 m_law_walked [a0, a1, a2, a3, a4] h = defK (m_law_walked [some a0, some a1, some a2, some a3, some a4, none, none, none, none] h) := defM_K rfl
def b1_law : MT := (wipT [9, 10, 11] (seqS (setS 10 (callM f_law_named [] (consA (varM 4) (consA (varM 7) nilA))))
    (seqS (setS 11 (bltM tupF (consA (flsM (bltL sortIF (consA (flsM (lcM (rng1 (consA (bltM lenF (consA (varM 2) nilA)) nilA)) [12] (one 12) (tstM (opM eqF (opM ixF (varM 7) (varM 12)) (varM 12))) (opM ixF (varM 4) (varM 12)))) nilA))) nilA)))
    (seqS (ifS (orT (notT (truM (callM f_law_same [] (consA (callM f_lefschetz [] (consA (varM 5) (consA (varM 10) nilA))) (consA (varM 8) nilA))))) (notT (truM (callM f_law_same [] (consA (callM f_fixed_points [] (consA (varM 5) (consA (varM 10) nilA))) (consA (varM 11) nilA)))))) (retS (cM (.bl false))) nilS)
    (setS 7 (callM f_law_walked [] (consA (varM 1) (consA (varM 2) (consA (varM 3) (consA (varM 7) (consA (opM addF (cM (.int 1)) (callM f_law_draw [] (consA (varM 1) (consA (cM (.int 10)) nilA)))) nilA)))))))))))
def b2_law : MT := (wipT [6, 7, 8, 9, 10, 11] (seqS (setS 7 (callM f_law_map [] (consA (varM 1) (consA (varM 2) nilA))))
    (seqS (setS 8 (callM f_law_number [] (consA (varM 2) (consA (varM 7) nilA))))
    (seqS (preW [9, 10, 11] (forM (rng1 (consA (cM (.int 4)) nilA)) (one 9) b1_law))
    (seqS (setS 10 (callM f_law_named [] (consA (varM 4) (consA (varM 7) nilA))))
    (seqS (setS 11 (bltM tupF (consA (flsM (bltL sortIF (consA (flsM (lcM (rng1 (consA (bltM lenF (consA (varM 2) nilA)) nilA)) [12] (one 12) (tstM (opM eqF (opM ixF (varM 7) (varM 12)) (varM 12))) (opM ixF (varM 4) (varM 12)))) nilA))) nilA)))
    (seqS (ifS (notT (truM (callM f_law_same [] (consA (callKM f_lefschetz 0 2 [1, 0] [] nilA (consA (varM 10) (consA (varM 5) nilA))) (consA (varM 8) nilA))))) (retS (cM (.bl false))) nilS)
    (ifS (notT (truM (callM f_law_same [] (consA (callKM f_fixed_points 0 2 [1, 0] [] nilA (consA (varM 10) (consA (varM 5) nilA))) (consA (varM 11) nilA))))) (retS (cM (.bl false))) nilS))))))))
def m_law : MT := (seqS (setS 1 (callM f_law_tape [] (consA (varM 0) nilA)))
    (seqS (setS 2 (callM f_law_drawn [] (consA (varM 1) (consA (cM (.int 8)) nilA))))
    (seqS (ifS (tstM (opM eqF (bltM lenF (consA (varM 2) nilA)) (cM (.int 0)))) (setS 2 (flsM (lstM (consA (flsM (lstM (consA (cM (.bl false)) nilA))) nilA)))) nilS)
    (seqS (setS 3 (callM f_law_covers [] (consA (varM 2) nilA)))
    (seqS (setS 4 (callM f_law_shuffled [] (consA (varM 1) (consA (bltM lenF (consA (varM 2) nilA)) nilA))))
    (seqS (setS 5 (callM f_law_told [] (consA (varM 2) (consA (varM 4) nilA))))
    (seqS (preW [6, 7, 8, 9, 10, 11] (forM (rng1 (consA (cM (.int 2)) nilA)) (one 6) b2_law))
    (retS (cM (.bl true))))))))))
def f_law : MF := defM 1 13 m_law
theorem x_law {a0 : MV} {h : MH} : defM 1 13 m_law [a0] h = defK (m_law [some a0, none, none, none, none, none, none, none, none, none, none, none, none] h) := defM_K rfl
end
end Mi.k59
set_option maxHeartbeats 2000000
namespace Mi.k59
open PySem L2
mutual
def sm : Nat → PV → Bool
  | 0, _ => false
  | k + 1, .tup xs => decide (xs.length ≤ 400000) && sms k xs
  | _ + 1, .int _ => true
  | _ + 1, _ => false
def sms : Nat → List PV → Bool
  | _, [] => true
  | k, x :: xs => sm k x && sms k xs
end
theorem sms_mem {k : Nat} : ∀ {xs : List PV}, sms k xs = true → ∀ x ∈ xs, sm k x = true
  | y :: ys, e, x, hx => by
    have e : (sm k y && sms k ys) = true := e
    obtain ⟨e1, e2⟩ := Bool.and_eq_true_iff.mp e
    rcases List.mem_cons.mp hx with q | q
    · rw [q]; exact e1
    · exact sms_mem e2 x q
theorem same_refl : ∀ (k : Nat) (v : PV) (h : MH), sm k v = true → fr_law_same k [plv v, plv v] h = ok (.bl true) h
  | 0, _, _, e => by unfold sm at e; cases e
  | k + 1, v, h, e => by
    refine (x_law_same k).trans ?_
    cases v with
    | non => unfold sm at e; cases e
    | bl b => unfold sm at e; cases e
    | int i => simp [m_law_same, plv, defK, tyOf, Ty.le, eqB]
    | str t => unfold sm at e; cases e
    | tup xs =>
      have e : (decide (xs.length ≤ 400000) && sms k xs) = true := e
      obtain ⟨e1, e2⟩ := Bool.and_eq_true_iff.mp e
      have e1 := of_decide_eq_true e1
      have hv : plv (.tup xs) = .tup (xs.map plv) := pv_tup.symm
      rw [hv]
      obtain ⟨v, hv⟩ : ∃ v, v = MV.tup (xs.map plv) := ⟨_, rfl⟩
      have lp : forM (rng1 (consA (bltM lenF (consA (varM 1) nilA)) nilA)) (one 2) (b1_law_same (fr_law_same k)) [some v, some v, none] h = some (.nx [some v, some v, none] h) := by
        have ln := y_len (a := varM 1) (s := [some v, some v, none]) (h := h) (h1 := h) (f := plv) (xs := xs) (r_var rfl) (by rw [hv]; rfl)
        refine (t_for (q_rng ln (by omega))).trans ?_
        have := for_all (bd := turnM (one 2) (b1_law_same (fr_law_same k))) (f := nV) (s := [some v, some v, none]) (h := h) (fun _ : Nat => true) (.bl false) (xs := List.range xs.length) fun j hj => by
          have hj := List.mem_range.mp hj
          have gj : (xs.map plv)[j]? = some (plv xs[j]) := by rw [List.getElem?_map, List.getElem?_eq_getElem hj]; rfl
          have q := same_refl k xs[j] h (sms_mem e2 _ (List.getElem_mem _))
          have i0 : opM ixF (varM 0) (varM 2) [some v, some v, some (nV j)] h = ok (plv xs[j]) h := r_ixt (xs := xs.map plv) (r_var (by rw [hv]; rfl)) (r_var rfl) gj
          have i1 : opM ixF (varM 1) (varM 2) [some v, some v, some (nV j)] h = ok (plv xs[j]) h := r_ixt (xs := xs.map plv) (r_var (by rw [hv]; rfl)) (r_var rfl) gj
          rw [if_pos rfl]
          show wipT [2] _ [some v, some v, some (nV j)] h = _
          exact (wip_nx (t_if_nil (r_not (p := true) (r_tru (callM_ok (consA_ok i0 (consA_ok i1 r_nil)) q))))).trans rfl
        rw [this]
        simp
      have ln : ∀ i, i < 2 → bltM lenF (consA (varM i) nilA) [some v, some v, none] h = ok (nV xs.length) h := fun i hi => y_len (f := plv) (xs := xs) (y := v) (r_var (by match i, hi with | 0, _ => rfl | 1, _ => rfl)) (by rw [hv]; rfl)
      have t1 : truM (isiM [.tuple] (varM 1)) [some v, some v, none] h = ok true h := by rw [hv]; rfl
      have t0 : truM (isiM [.tuple] (varM 0)) [some v, some v, none] h = ok true h := by rw [hv]; rfl
      have tn : tstM (opM neF (bltM lenF (consA (varM 0) nilA)) (bltM lenF (consA (varM 1) nilA))) [some v, some v, none] h = ok (!decide (xs.length = xs.length)) h := r_tst (r_ne (ln 0 (by omega)) (ln 1 (by omega)))
      rw [← hv]
      unfold m_law_same
      have body : (seqS (preW [2] (forM (rng1 (consA (bltM lenF (consA (varM 1) nilA)) nilA)) (one 2) (b1_law_same (fr_law_same k)))) (retS (cM (.bl true)))) [some v, some v, none] h = some (.ret (.bl true) h) := (seq_nx (show preW [2] (forM (rng1 (consA (bltM lenF (consA (varM 1) nilA)) nilA)) (one 2) (b1_law_same (fr_law_same k))) [some v, some v, none] h = some (OutS.nx [some v, some v, none] h) from lp)).trans rfl
      have fi : ifS (orT (notT (truM (isiM [.tuple] (varM 0)))) (tstM (opM neF (bltM lenF (consA (varM 0) nilA)) (bltM lenF (consA (varM 1) nilA))))) (retS (cM (.bl false))) nilS [some v, some v, none] h = some (.nx [some v, some v, none] h) := t_if_nil (r_or_f (r_not t0) (tn.trans (by rw [decide_eq_true rfl]; rfl)))
      rw [seq_ret ((ifS_t t1).trans ((seq_nx fi).trans body))]
      rfl
open Classical in
noncomputable def same_t (a b : PV) : Option Bool := if a = b ∧ sm 8 a = true then some true else none
theorem same_tt {h : MH} {a b : PV} {r : Bool} (e : same_t a b = some r) : f_law_same [plv a, plv b] h = ok (.bl r) h := by
  unfold same_t at e
  split at e
  · rename_i c
    cases e
    rw [← c.1]
    exact same_refl 8 a h c.2
  · cases e
theorem same_ok {a b : PV} (h : a = b) (h2 : sm 8 a = true) : same_t a b = some true := if_pos ⟨h, h2⟩
end Mi.k59
set_option simprocs false
set_option maxHeartbeats 2000000
namespace Mi.k59
open PySem L2
noncomputable section
abbrev e_FN (q : (List Nat)) : MV := (MV.fls (List.map nV q))
abbrev c_RX6cel_at_val_dig_mix_salFINNNNN (q : ((List Int) × Nat × Nat × Nat × Nat × Nat)) : MO := .dK [(.inr "cells", (MV.fls (List.map MV.int q.1))), (.inr "at", (nV q.2.1)), (.inr "value", (nV q.2.2.1)), (.inr "digits", (nV q.2.2.2.1)), (.inr "mixed", (nV q.2.2.2.2.1)), (.inr "salt", (nV q.2.2.2.2.2))]
abbrev e_FB (q : (List Bool)) : MV := (MV.fls (List.map MV.bl q))
abbrev e_FP2NN (q : (List (Nat × Nat))) : MV := (MV.fls (List.map prV q))
abbrev e_FFB (q : (List (List Bool))) : MV := (MV.fls (List.map e_FB q))
abbrev e_VN (q : (List Nat)) : MV := (MV.tup (List.map nV q))
def t_fixed_points (order : (Nat × (List (Nat × Nat)))) (row : (List Nat)) : Option (List Nat) :=
  gd (order.1 ≤ 400000) <|
  gd ((List.range order.1).length ≤ 400000) <|
  (lcO (fun x2 : Nat => (row[x2]?).bind fun v3 => some (decide (v3 = x2))) (fun x2 : Nat => ( some x2 : Option Nat)) (List.range order.1)).bind fun r5 =>
  some r5
theorem tt_fixed_points {h : MH} {order : (Nat × (List (Nat × Nat)))} {row : (List Nat)} {r : (List Nat)}  (e : t_fixed_points order row = some r) : f_fixed_points [(MV.tup [(nV order.1), (MV.tup (List.map prV order.2))]), (MV.tup (List.map nV row))] h = ok (MV.tup (List.map nV r)) h := by
  unfold t_fixed_points at e
  refine x_fixed_points.trans (fn_go ?_)
  unfold m_fixed_points
  obtain ⟨g_1, e⟩ := gd_e e
  obtain ⟨g_4, e⟩ := gd_e e
  obtain ⟨r5, b_r5, e⟩ := obind e
  have z6 : (lcM (rng1 (consA (opM ixF (varM 0) (cM (.int 0))) nilA)) [2] (one 2) (tstM (opM eqF (opM ixF (varM 1) (varM 2)) (varM 2))) (varM 2)) [some (MV.tup [(nV order.1), (MV.tup (List.map prV order.2))]), some (MV.tup (List.map nV row)), none] h = ok (List.map nV r5) h := z_lcO (f := nV) (g := nV) (xs := (List.range order.1)) (q_rng (n := order.1) (r_ixt (i := 0) (r_var rfl) rfl rfl) g_1) g_4 (fun _ => rfl)
      (fun x2 b e => by
        obtain ⟨v3, b_v3, e⟩ := obind e
        obtain rfl := some_e e
        exact (r_tst (r_eq (i := v3) (j := x2) (y_ix (f := nV) (xs := row) (i := x2) (r_var rfl) (r_var rfl) rfl b_v3) (r_var rfl))))
      (fun x2 y e => by
        obtain rfl := some_e e
        exact (r_var rfl)) b_r5
  refine W_ret (r_tupf (r_fls z6)) ?_
  obtain rfl := some_e e
  exact rfl
def t_induced (order : (Nat × (List (Nat × Nat)))) (points : (List Nat)) : Option (Nat × (List (Nat × Nat))) :=
  gd ((enu points).length ≤ 400000) <|
  lett ((dcP (fun (pp1 : (Nat × Nat)) => pp1.2) (fun (pp1 : (Nat × Nat)) => pp1.1) (enu points) []) : (List (Nat × Nat))) fun c5 =>
  gd (order.2.length ≤ 400000) <|
  (lcO (fun xy6 : (Nat × Nat) =>  some ((dGet c5 xy6.1).isSome && (dGet c5 xy6.2).isSome)) (fun xy6 : (Nat × Nat) => ((dGet c5 xy6.1).bind fun v7 => (dGet c5 xy6.2).bind fun v8 => some (v7, v8) : Option (Nat × Nat))) order.2).bind fun r10 =>
  some (points.length, r10)
theorem tt_induced {h : MH} {order : (Nat × (List (Nat × Nat)))} {points : (List Nat)} {r : (Nat × (List (Nat × Nat)))}  (e : t_induced order points = some r) : f_induced [(MV.tup [(nV order.1), (MV.tup (List.map prV order.2))]), (MV.tup (List.map nV points))] h = ok (MV.tup [(nV r.1), (MV.tup (List.map prV r.2))]) h := by
  unfold t_induced at e
  obtain ⟨o, eo, h9, e9, fr9⟩ : ∃ o, m_induced [some ((MV.tup [(nV order.1), (MV.tup (List.map prV order.2))])), some ((MV.tup (List.map nV points))), none, none, none, none, none, none] h = some o ∧ ∃ h9, defK (some o) = ok (MV.tup [(nV r.1), (MV.tup (List.map prV r.2))]) h9 ∧ Fr h [] h9 := by
    unfold m_induced
    have fr0 : Fr h [] h := Fr.refl
    obtain ⟨g_2, e⟩ := gd_e e
    obtain ⟨c5, h_c5, e⟩ := lett_e e
    obtain ⟨p3, q_p3⟩ : ∃ x : Nat, x = h.length := ⟨_, rfl⟩
    obtain ⟨h4, q_h4⟩ : ∃ x : MH, x = h ++ [(MO.dK (List.map (fun (q : Nat × Nat) => (kyN q.1, (nV q.2))) c5))] := ⟨_, rfl⟩
    have w_h4_0 : h4[p3]? = some (MO.dK (List.map (fun (q : Nat × Nat) => (kyN q.1, (nV q.2))) c5)) := by rw [q_h4]; exact g_nw q_p3
    have lo_p3 : h.length ≤ p3 := by rw [q_p3]; exact fr0.1
    have fr_h4 : Fr h [] h4 := by rw [q_h4]; exact fr0.app
    refine W_seq (setS_ok (y_dcP (f := prV) (g := nV) (xs := (enu points)) (k := (fun (pp1 : (Nat × Nat)) => pp1.2)) (v := (fun (pp1 : (Nat × Nat)) => pp1.1)) (y_enmV (f := nV) (xs := points) (r_var rfl)) g_2 (fun _ => rfl) (fun pp1 _ => (r_var rfl)) (fun pp1 _ => (r_var rfl)) q_p3 (Eq.trans q_h4 (congrArg (fun z => h ++ [(MO.dK (List.map (fun (q : Nat × Nat) => (kyN q.1, (nV q.2))) z))]) h_c5)))) ?_
    obtain ⟨g_9, e⟩ := gd_e e
    obtain ⟨r10, b_r10, e⟩ := obind e
    have z11 : (lcM (seqI (opM ixF (varM 0) (cM (.int 1)))) [6, 7] (unp [6, 7]) (andT (tstM (opM dinF (varM 6) (varM 2))) (tstM (opM dinF (varM 7) (varM 2)))) (tupM (consA (opM dgetF (varM 2) (varM 6)) (consA (opM dgetF (varM 2) (varM 7)) nilA)))) [some (MV.tup [(nV order.1), (MV.tup (List.map prV order.2))]), some (MV.tup (List.map nV points)), some (.ref p3), none, none, none, none, none] h4 = ok (List.map prV r10) h4 := z_lcO (f := prV) (g := prV) (xs := order.2) (q_tup (r_ixt (i := 1) (r_var rfl) rfl rfl)) g_9 (fun _ => rfl)
        (fun xy6 b e => by
          obtain rfl := some_e e
          exact (r_and (p := (dGet c5 xy6.1).isSome) (q := (dGet c5 xy6.2).isSome) (r_tst (y_din (g := fun (q : Nat) => (nV q)) (r_var rfl) (r_var rfl) w_h4_0)) (fun _ => (r_tst (y_din (g := fun (q : Nat) => (nV q)) (r_var rfl) (r_var rfl) w_h4_0)))))
        (fun xy6 y e => by
          obtain ⟨v7, b_v7, e⟩ := obind e
          obtain ⟨v8, b_v8, e⟩ := obind e
          obtain rfl := some_e e
          exact (tupM_ok (consA_ok (y_dget (g := fun (q : Nat) => (nV q)) (r_var rfl) (r_var rfl) w_h4_0 b_v7) (consA_ok (y_dget (g := fun (q : Nat) => (nV q)) (r_var rfl) (r_var rfl) w_h4_0 b_v8) r_nil)) (by show 2 ≤ 1000; omega))) b_r10
    refine W_seq (setS_ok (r_fls z11)) ?_
    refine W_ret (tupM_ok (consA_ok (y_len (f := nV) (xs := points) (r_var rfl) rfl) (consA_ok (r_tupf (r_var rfl)) r_nil)) (by show 2 ≤ 1000; omega)) ?_
    obtain rfl := some_e e
    exact ⟨_, rfl, fr_h4⟩
  have ef : defM 2 8 m_induced [(MV.tup [(nV order.1), (MV.tup (List.map prV order.2))]), (MV.tup (List.map nV points))] h = ok (MV.tup [(nV r.1), (MV.tup (List.map prV r.2))]) h9 := x_induced.trans (by rw [eo]; exact e9)
  have := cut_fr ef fr9 ((fun (q : (Nat × (List (Nat × Nat)))) => clo_t (clo_c (x := (nV q.1)) ((fun _ => rfl) q.1) (clo_c (x := (MV.tup (List.map prV q.2))) ((fun (q : (List (Nat × Nat))) => clo_V (f := prV) (fun (q : (Nat × Nat)) => clo_t (clo_c (x := (nV q.1)) ((fun _ => rfl) q.1) (clo_c (x := (nV q.2)) ((fun _ => rfl) q.2) clo_n)))) q.2) clo_n))) r) (fun _ hl => absurd hl List.not_mem_nil)
  rwa [fr9.to0] at this
def tb1_chain_counts (q6 : ((List Nat) × (List Nat))) (q17 : (List Nat)) (xy18 : (Nat × Nat)) : Option (List Nat) :=
  (q17[xy18.2]?).bind fun v21 =>
  (q6.1[xy18.1]?).bind fun v22 =>
  gd (xy18.2 < q17.length) <|
  lett ((q17.set xy18.2 (v21 + v22)) : (List Nat)) fun c25 =>
  some c25
def tb2_chain_counts (q6 : ((List Nat) × (List Nat))) : Option Bool :=
   some (decide (0 < q6.1.sum))
def tb3_chain_counts (order : (Nat × (List (Nat × Nat)))) (q6 : ((List Nat) × (List Nat))) : Option (Lp ((List Nat) × (List Nat)) Unit) :=
  gd (q6.2.length ≤ 400000) <|
  lett ((q6.2 ++ [q6.1.sum]) : (List Nat)) fun c11 =>
  gd ([0].length * order.1 ≤ 400000) <|
  gd (order.1 ≤ 400000) <|
  lett ((List.replicate order.1 [0]).flatten : (List Nat)) fun c16 =>
  (forO (tb1_chain_counts q6) order.2 c16).bind fun q26 =>
  some (.nx (q26, c11))
def t_chain_counts (order : (Nat × (List (Nat × Nat)))) : Option (List Nat) :=
  gd ([1].length * order.1 ≤ 400000) <|
  gd (order.1 ≤ 400000) <|
  lett ((List.replicate order.1 [1]).flatten : (List Nat)) fun ending5 =>
  lpB (whO tb2_chain_counts (tb3_chain_counts order) 1000000 (ending5, [])) (fun q29 =>
  some q29.2) (fun (r31 : Unit) => none)
theorem tt_chain_counts {h : MH} {order : (Nat × (List (Nat × Nat)))} {r : (List Nat)}  (e : t_chain_counts order = some r) : f_chain_counts [(MV.tup [(nV order.1), (MV.tup (List.map prV order.2))])] h = ok (MV.tup (List.map nV r)) h := by
  unfold t_chain_counts at e
  obtain ⟨o, eo, h9, e9, fr9⟩ : ∃ o, m_chain_counts [some ((MV.tup [(nV order.1), (MV.tup (List.map prV order.2))])), none, none, none, none, none] h = some o ∧ ∃ h9, defK (some o) = ok (MV.tup (List.map nV r)) h9 ∧ Fr h [] h9 := by
    unfold m_chain_counts
    have fr0 : Fr h [] h := Fr.refl
    obtain ⟨p1, q_p1⟩ : ∃ x : Nat, x = h.length := ⟨_, rfl⟩
    obtain ⟨h2, q_h2⟩ : ∃ x : MH, x = h ++ [(MO.lst (List.map nV []))] := ⟨_, rfl⟩
    have w_h2_0 : h2[p1]? = some (MO.lst (List.map nV [])) := by rw [q_h2]; exact g_nw q_p1
    have lo_p1 : h.length ≤ p1 := by rw [q_p1]; exact fr0.1
    have fr_h2 : Fr h [] h2 := by rw [q_h2]; exact fr0.app
    refine W_seq (setS_ok (y_ref (r_lst r_nil (by show 0 ≤ 400000; omega)) q_p1 q_h2)) ?_
    obtain ⟨g_3, e⟩ := gd_e e
    obtain ⟨g_4, e⟩ := gd_e e
    obtain ⟨ending5, h_ending5, e⟩ := lett_e e
    refine W_seq (setS_ok (ok_lt (f := e_FN) h_ending5 (r_fls (z_rep (f := nV) (xs := [1]) (i := order.1) (r_fls (r_lst (consA_ok rfl r_nil) (by show 1 ≤ 400000; omega))) (r_ixt (i := 0) (r_var rfl) rfl rfl) rfl g_3 g_4)))) ?_
    refine W_joinB e (fun (q6 : ((List Nat) × (List Nat))) s7 h8 => s7 = [some (MV.tup [(nV order.1), (MV.tup (List.map prV order.2))]), some (.ref p1), some (MV.fls (List.map nV q6.1)), none, none, none] ∧ Fr h [] h8 ∧ h8[p1]? = some (MO.lst (List.map nV q6.2))) (fun (_ : Unit) _ _ => False) (fun o e => W_jwhl (c := tb2_chain_counts) (f := (tb3_chain_counts order)) (fun (q6 : ((List Nat) × (List Nat))) s7 h8 => s7 = [some (MV.tup [(nV order.1), (MV.tup (List.map prV order.2))]), some (.ref p1), some (MV.fls (List.map nV q6.1)), none, none, none] ∧ Fr h [] h8 ∧ h8[p1]? = some (MO.lst (List.map nV q6.2))) (fun (_ : Unit) _ _ => False) ⟨rfl, fr_h2, w_h2_0⟩ e (fun q6 s h8 b ra e => ?_) (fun q6 s h8 o ra _ e => ?_)) ?_ ?_
    · obtain ⟨rfl, fr_h8, w_h8_0⟩ := ra
      unfold tb2_chain_counts at e
      obtain rfl := some_e e
      exact (r_tst (r_gt (i := q6.1.sum) (j := 0) (y_sumN (xs := q6.1) (r_var rfl) rfl) rfl))
    · obtain ⟨rfl, fr_h8, w_h8_0⟩ := ra
      unfold tb3_chain_counts at e
      unfold b2_chain_counts
      refine W_cutLR (fun b s1 h1 ra1 => ⟨ra1.1, (Fr.tk ra1.2.1 fr_h8.1), (tk_get ra1.2.2 (g_lt w_h8_0))⟩) ?_
      refine W_wip' ?_
      obtain ⟨g_9, e⟩ := gd_e e
      obtain ⟨c11, h_c11, e⟩ := lett_e e
      obtain ⟨h10, q_h10⟩ : ∃ x : MH, x = h8.set p1 (MO.lst (List.map nV c11)) := ⟨_, rfl⟩
      have w_h10_0 : h10[p1]? = some (MO.lst (List.map nV c11)) := by rw [q_h10]; exact g_eq w_h8_0
      have fr_h10 : Fr h [] h10 := by rw [q_h10]; exact fr_h8.out lo_p1
      refine W_seq (t_drop (y_push (f := nV) (xs := q6.2) (x := q6.1.sum) (r_var rfl) (consA_ok (y_sumN (xs := q6.1) (r_var rfl) rfl) r_nil) w_h8_0 w_h8_0 g_9 (Eq.trans q_h10 (congrArg (fun z => List.set h8 p1 (MO.lst (List.map nV z))) h_c11)))) ?_
      obtain ⟨g_12, e⟩ := gd_e e
      obtain ⟨g_13, e⟩ := gd_e e
      obtain ⟨c16, h_c16, e⟩ := lett_e e
      obtain ⟨p14, q_p14⟩ : ∃ x : Nat, x = h10.length := ⟨_, rfl⟩
      obtain ⟨h15, q_h15⟩ : ∃ x : MH, x = h10 ++ [(MO.lst (List.map nV c16))] := ⟨_, rfl⟩
      have n_p14_0 : p1 ≠ p14 := by rw [q_p14]; exact Nat.ne_of_lt (g_lt w_h10_0)
      have w_h15_0 : h15[p1]? = some (MO.lst (List.map nV c11)) := by rw [q_h15]; exact g_ap w_h10_0
      have w_h15_1 : h15[p14]? = some (MO.lst (List.map nV c16)) := by rw [q_h15]; exact g_nw q_p14
      have lo_p14 : h.length ≤ p14 := by rw [q_p14]; exact fr_h10.1
      have fr_h15 : Fr h [] h15 := by rw [q_h15]; exact fr_h10.app
      refine W_seq (setS_ok (y_ref (z_rep (f := nV) (xs := [0]) (i := order.1) (r_fls (r_lst (consA_ok rfl r_nil) (by show 1 ≤ 400000; omega))) (r_ixt (i := 0) (r_var rfl) rfl rfl) rfl g_12 g_13) q_p14 (Eq.trans q_h15 (congrArg (fun z => h10 ++ [(MO.lst (List.map nV z))]) h_c16)))) ?_
      obtain ⟨q26, b_q26, e⟩ := obind e
      refine W_forO (e := prV) (xs := order.2) (f := (tb1_chain_counts q6)) (fun (q17 : (List Nat)) s19 h20 => s19 = [some (MV.tup [(nV order.1), (MV.tup (List.map prV order.2))]), some (.ref p1), some (MV.fls (List.map nV q6.1)), some (.ref p14), none, none] ∧ Fr h [] h20 ∧ h20[p1]? = some (MO.lst (List.map nV c11)) ∧ h20[p14]? = some (MO.lst (List.map nV q17))) (q_tup (r_ixt (i := 1) (r_var rfl) rfl rfl)) ⟨rfl, fr_h15, w_h15_0, w_h15_1⟩ b_q26 (fun q17 xy18 s h20 b ra e => ?_) ?_
      · obtain ⟨rfl, fr_h20, w_h20_0, w_h20_1⟩ := ra
        unfold tb1_chain_counts at e
        refine W_turn rfl ?_
        unfold b1_chain_counts
        refine W_wip' ?_
        refine W_lst ?_
        obtain ⟨v21, b_v21, e⟩ := obind e
        obtain ⟨v22, b_v22, e⟩ := obind e
        obtain ⟨g_23, e⟩ := gd_e e
        obtain ⟨c25, h_c25, e⟩ := lett_e e
        obtain ⟨h24, q_h24⟩ : ∃ x : MH, x = h20.set p14 (MO.lst (List.map nV c25)) := ⟨_, rfl⟩
        have w_h24_0 : h24[p1]? = some (MO.lst (List.map nV c11)) := by rw [q_h24]; exact g_ne w_h20_0 (Ne.symm n_p14_0)
        have w_h24_1 : h24[p14]? = some (MO.lst (List.map nV c25)) := by rw [q_h24]; exact g_eq w_h20_1
        have fr_h24 : Fr h [] h24 := by rw [q_h24]; exact fr_h20.out lo_p14
        refine W_seq (y_put (f := nV) (xs := q17) (i := xy18.2) (x := (v21 + v22)) (r_add (i := v21) (j := v22) (y_ix (f := nV) (xs := q17) (i := xy18.2) (r_var rfl) (r_var rfl) (sq_ref w_h20_1) b_v21) (y_ix (f := nV) (xs := q6.1) (i := xy18.1) (r_var rfl) (r_var rfl) rfl b_v22)) (r_var rfl) (r_var rfl) w_h20_1 g_23 (Eq.trans q_h24 (congrArg (fun z => List.set h20 p14 (MO.lst (List.map nV z))) h_c25))) ?_
        refine W_nil ?_
        obtain rfl := some_e e
        exact ⟨_, rfl, _, _, .inl rfl, ⟨rfl, fr_h24, w_h24_0, w_h24_1⟩⟩
      rintro _ h27 ⟨rfl, fr_h27, w_h27_0, w_h27_1⟩
      refine W_lst ?_
      obtain ⟨h28, q_h28⟩ : ∃ x : MH, x = h27.set p14 MO.dead := ⟨_, rfl⟩
      have w_h28_0 : h28[p1]? = some (MO.lst (List.map nV c11)) := by rw [q_h28]; exact g_ne w_h27_0 (Ne.symm n_p14_0)
      have fr_h28 : Fr h [] h28 := by rw [q_h28]; exact fr_h27.out lo_p14
      refine W_seq (setS_ok (y_frz (r_var rfl) w_h27_1 (all_flat (f := nV) (fun _ => rfl)) q_h28)) ?_
      refine W_nil ?_
      obtain rfl := some_e e
      exact ⟨_, rfl, _, _, .inl rfl, ⟨rfl, fr_h28, w_h28_0⟩⟩
    · rintro q29 _ h30 e ⟨rfl, fr_h30, w_h30_0⟩
      refine W_ret (r_tupr (r_var rfl) w_h30_0) ?_
      obtain rfl := some_e e
      exact ⟨_, rfl, fr_h30⟩
    · intro r31 v2 h2 e
      cases e
  have ef : defM 1 6 m_chain_counts [(MV.tup [(nV order.1), (MV.tup (List.map prV order.2))])] h = ok (MV.tup (List.map nV r)) h9 := x_chain_counts.trans (by rw [eo]; exact e9)
  have := cut_fr ef fr9 ((fun (q : (List Nat)) => clo_V (f := nV) (fun _ => rfl)) r) (fun _ hl => absurd hl List.not_mem_nil)
  rwa [fr9.to0] at this
def t_euler (order : (Nat × (List (Nat × Nat)))) : Option Int :=
  (t_chain_counts order).bind fun r1 =>
  some ((((stp 0 2 r1).sum : Nat) : Int) - (((stp 1 2 r1).sum : Nat) : Int))
theorem tt_euler {h : MH} {order : (Nat × (List (Nat × Nat)))} {r : Int}  (e : t_euler order = some r) : f_euler [(MV.tup [(nV order.1), (MV.tup (List.map prV order.2))])] h = ok (MV.int r) h := by
  unfold t_euler at e
  refine x_euler.trans (fn_go ?_)
  unfold m_euler
  obtain ⟨r1, b_r1, e⟩ := obind e
  have c2 := tt_chain_counts (h := h)  b_r1
  refine W_seq (setS_ok (callM_ok (consA_ok (r_var rfl) r_nil) c2)) ?_
  refine W_ret (i_sub (i := (((stp 0 2 r1).sum : Nat) : Int)) (j := (((stp 1 2 r1).sum : Nat) : Int)) (y_sumTN (xs := (stp 0 2 r1)) (y_stpT (f := nV) (xs := r1) (k := 2) (r_var rfl))) (y_sumTN (xs := (stp 1 2 r1)) (y_stpT_i (f := nV) (xs := r1) (k := 2) (i := 1) (r_var rfl) rfl))) ?_
  obtain rfl := some_e e
  exact rfl
def t_lefschetz (order : (Nat × (List (Nat × Nat)))) (row : (List Nat)) : Option Int :=
  (t_fixed_points order row).bind fun r1 =>
  (t_induced order r1).bind fun r3 =>
  (t_euler r3).bind fun r5 =>
  some r5
theorem tt_lefschetz {h : MH} {order : (Nat × (List (Nat × Nat)))} {row : (List Nat)} {r : Int}  (e : t_lefschetz order row = some r) : f_lefschetz [(MV.tup [(nV order.1), (MV.tup (List.map prV order.2))]), (MV.tup (List.map nV row))] h = ok (MV.int r) h := by
  unfold t_lefschetz at e
  refine x_lefschetz.trans (fn_go ?_)
  unfold m_lefschetz
  obtain ⟨r1, b_r1, e⟩ := obind e
  have c2 := tt_fixed_points (h := h)  b_r1
  obtain ⟨r3, b_r3, e⟩ := obind e
  have c4 := tt_induced (h := h)  b_r3
  obtain ⟨r5, b_r5, e⟩ := obind e
  have c6 := tt_euler (h := h)  b_r5
  refine W_ret (callM_ok (consA_ok (callM_ok (consA_ok (r_var rfl) (consA_ok (callM_ok (consA_ok (r_var rfl) (consA_ok (r_var rfl) r_nil)) c2) r_nil)) c4) r_nil) c6) ?_
  obtain rfl := some_e e
  exact rfl
def tb1_law_tape (q2 : Nat) (number3 : Int) : Option Nat :=
  lett (((((q2 * 69621) + number3.natAbs) + 3) % 2147483647) : Nat) fun salt6 =>
  some salt6
def t_law_tape (script : (List Int)) : Option ((List Int) × Nat × Nat × Nat × Nat × Nat) :=
  lett ((11 + script.length) : Nat) fun salt1 =>
  (forO tb1_law_tape script salt1).bind fun q7 =>
  lett ((script, 0, 0, 0, 0, q7) : ((List Int) × Nat × Nat × Nat × Nat × Nat)) fun c11 =>
  some c11
theorem tt_law_tape {h : MH} {script : (List Int)} {r : ((List Int) × Nat × Nat × Nat × Nat × Nat)}  (e : t_law_tape script = some r) : ∃ p9 h9, f_law_tape [(MV.frz (List.map MV.int script))] h = ok (.ref p9) h9 ∧ Fr h [] h9 ∧ h.length ≤ p9 ∧ h9[p9]? = some (c_RX6cel_at_val_dig_mix_salFINNNNN r) := by
  unfold t_law_tape at e
  obtain ⟨o, eo, p9, h9, e9, fr9, lo9, w9⟩ : ∃ o, m_law_tape [some ((MV.frz (List.map MV.int script))), none, none] h = some o ∧ ∃ p9 h9, defK (some o) = ok (.ref p9) h9 ∧ Fr h [] h9 ∧ h.length ≤ p9 ∧ h9[p9]? = some (c_RX6cel_at_val_dig_mix_salFINNNNN r) := by
    unfold m_law_tape
    have fr0 : Fr h [] h := Fr.refl
    obtain ⟨salt1, h_salt1, e⟩ := lett_e e
    refine W_seq (setS_ok (ok_lt (f := nV) h_salt1 (r_add (i := 11) (j := script.length) rfl (y_len (f := MV.int) (xs := script) (r_var rfl) rfl)))) ?_
    obtain ⟨q7, b_q7, e⟩ := obind e
    refine W_forO (e := MV.int) (xs := script) (f := tb1_law_tape) (fun (q2 : Nat) s4 h5 => s4 = [some (MV.frz (List.map MV.int script)), some (nV q2), none] ∧ h = h5) (q_frz (r_var rfl)) ⟨rfl, rfl⟩ b_q7 (fun q2 number3 s h5 b ra e => ?_) ?_
    · obtain ⟨rfl, rfl⟩ := ra
      unfold tb1_law_tape at e
      refine W_turn rfl ?_
      unfold b1_law_tape
      refine W_wip' ?_
      refine W_lst ?_
      obtain ⟨salt6, h_salt6, e⟩ := lett_e e
      refine W_seq (setS_ok (ok_lt (f := nV) h_salt6 (r_mod (i := (((q2 * 69621) + number3.natAbs) + 3)) (j := 2147483647) (i_int (r_add (i := ((q2 * 69621) + number3.natAbs)) (j := 3) (r_add (i := (q2 * 69621)) (j := number3.natAbs) (n_mul (i := q2) (j := 69621) (r_var rfl) rfl (.inr ⟨by omega, by omega⟩)) (i_abs (i := number3) (r_var rfl))) rfl)) rfl (by omega)))) ?_
      refine W_nil ?_
      obtain rfl := some_e e
      exact ⟨_, rfl, _, _, .inl rfl, ⟨rfl, rfl⟩⟩
    rintro _ _ ⟨rfl, rfl⟩
    obtain ⟨p8, q_p8⟩ : ∃ x : Nat, x = h.length := ⟨_, rfl⟩
    obtain ⟨h9, q_h9⟩ : ∃ x : MH, x = h ++ [(MO.dK (List.map (fun (q : Nat × Nat) => (kyN q.1, (nV q.2))) []))] := ⟨_, rfl⟩
    have w_h9_0 : h9[p8]? = some (MO.dK (List.map (fun (q : Nat × Nat) => (kyN q.1, (nV q.2))) [])) := by rw [q_h9]; exact g_nw q_p8
    have lo_p8 : h.length ≤ p8 := by rw [q_p8]; exact fr0.1
    have fr_h9 : Fr h [] h9 := by rw [q_h9]; exact fr0.app
    obtain ⟨c11, h_c11, e⟩ := lett_e e
    obtain ⟨h10, q_h10⟩ : ∃ x : MH, x = h9.set p8 (c_RX6cel_at_val_dig_mix_salFINNNNN c11) := ⟨_, rfl⟩
    have w_h10_0 : h10[p8]? = some (c_RX6cel_at_val_dig_mix_salFINNNNN c11) := by rw [q_h10]; exact g_eq w_h9_0
    have fr_h10 : Fr h [] h10 := by rw [q_h10]; exact fr_h9.out lo_p8
    refine W_ret (y_disp q_p8 q_h9 (pr_cons (r_fls (z_lst (r_var rfl) rfl)) (pr_cons rfl (pr_cons rfl (pr_cons rfl (pr_cons rfl (pr_cons (r_var rfl) pr_nil)))))) w_h9_0 (by show 6 ≤ 15; omega) (Eq.trans rfl (Eq.symm (Eq.trans q_h10 (congrArg (fun z => List.set h9 p8 (c_RX6cel_at_val_dig_mix_salFINNNNN z)) h_c11))))) ?_
    obtain rfl := some_e e
    exact ⟨_, _, rfl, fr_h10, lo_p8, w_h10_0⟩
  exact ⟨p9, h9, cut_ref (x_law_tape.trans (by rw [eo]; exact e9)) lo9, fr9, lo9, w9⟩
def t_law_load (tape : ((List Int) × Nat × Nat × Nat × Nat × Nat)) : Option ((List Int) × Nat × Nat × Nat × Nat × Nat) :=
  (tape.1[tape.2.1]?).bind fun v1 =>
  lett ((tape.1, (tape.2.1 + 1), tape.2.2.1, tape.2.2.2.1, tape.2.2.2.2.1, tape.2.2.2.2.2) : ((List Int) × Nat × Nat × Nat × Nat × Nat)) fun c3 =>
  if (decide ((v1 % (2 : Nat)).toNat = 0)) = true then (lett ((c3.1, c3.2.1, (v1.natAbs / 2), c3.2.2.2.1, c3.2.2.2.2.1, c3.2.2.2.2.2) : ((List Int) × Nat × Nat × Nat × Nat × Nat)) fun c5 =>
  lett ((c5.1, c5.2.1, c5.2.2.1, 60, c5.2.2.2.2.1, c5.2.2.2.2.2) : ((List Int) × Nat × Nat × Nat × Nat × Nat)) fun c7 =>
  some c7) else (lett ((c3.1, c3.2.1, c3.2.2.1, c3.2.2.2.1, c3.2.2.2.2.1, ((((c3.2.2.2.2.2 * 16807) + (v1.natAbs / 2)) + 1) % 2147483647)) : ((List Int) × Nat × Nat × Nat × Nat × Nat)) fun c9 =>
  lett ((c9.1, c9.2.1, c9.2.2.1, c9.2.2.2.1, 9, c9.2.2.2.2.2) : ((List Int) × Nat × Nat × Nat × Nat × Nat)) fun c11 =>
  some c11)
theorem tt_law_load {h : MH} {tape : ((List Int) × Nat × Nat × Nat × Nat × Nat)} {l0 : Nat} {r : ((List Int) × Nat × Nat × Nat × Nat × Nat)} (w0 : h[l0]? = some (c_RX6cel_at_val_dig_mix_salFINNNNN tape)) (e : t_law_load tape = some r) : f_law_load [.ref l0] h = ok MV.non (h.set l0 (c_RX6cel_at_val_dig_mix_salFINNNNN r)) := by
  unfold t_law_load at e
  obtain ⟨o, eo, h9, e9, fr9, ln9, w9_0⟩ : ∃ o, m_law_load [some (.ref l0), none] h = some o ∧ ∃ h9, defK (some o) = ok MV.non h9 ∧ Fr h [l0] h9 ∧ h9.length = h.length ∧ h9[l0]? = some (c_RX6cel_at_val_dig_mix_salFINNNNN r) := by
    unfold m_law_load
    have fr0 : Fr h [l0] h := Fr.refl
    have ln0 : h.length = h.length := rfl
    obtain ⟨v1, b_v1, e⟩ := obind e
    refine W_seq (setS_ok (y_ix (f := MV.int) (xs := tape.1) (i := tape.2.1) (y_xget (r_var rfl) rfl w0 rfl rfl) (y_xget (r_var rfl) rfl w0 rfl rfl) rfl b_v1)) ?_
    obtain ⟨c3, h_c3, e⟩ := lett_e e
    obtain ⟨h2, q_h2⟩ : ∃ x : MH, x = h.set l0 (c_RX6cel_at_val_dig_mix_salFINNNNN c3) := ⟨_, rfl⟩
    have w_h2_0 : h2[l0]? = some (c_RX6cel_at_val_dig_mix_salFINNNNN c3) := by rw [q_h2]; exact g_eq w0
    have fr_h2 : Fr h [l0] h2 := by rw [q_h2]; exact fr0.inn (by simp)
    have ln_h2 : h2.length = h.length := by rw [q_h2, List.length_set, ln0]
    refine W_seq (y_xput (r_add (i := tape.2.1) (j := 1) (y_xget (r_var rfl) rfl w0 rfl rfl) rfl) (r_var rfl) rfl w0 rfl (by show 6 < 1000000; omega) (Eq.trans rfl (Eq.symm (Eq.trans q_h2 (congrArg (fun z => List.set h l0 (c_RX6cel_at_val_dig_mix_salFINNNNN z)) h_c3))))) ?_
    rcases ite_e e with ⟨hc, e⟩ | ⟨hc, e⟩
    · refine W_t (r_tst (r_eq (i := (v1 % (2 : Nat)).toNat) (j := 0) (i_modN (i := v1) (j := 2) (i_int (r_var rfl)) rfl (by omega)) rfl)) hc ?_
      obtain ⟨c5, h_c5, e⟩ := lett_e e
      obtain ⟨h4, q_h4⟩ : ∃ x : MH, x = h2.set l0 (c_RX6cel_at_val_dig_mix_salFINNNNN c5) := ⟨_, rfl⟩
      have w_h4_0 : h4[l0]? = some (c_RX6cel_at_val_dig_mix_salFINNNNN c5) := by rw [q_h4]; exact g_eq w_h2_0
      have fr_h4 : Fr h [l0] h4 := by rw [q_h4]; exact fr_h2.inn (by simp)
      have ln_h4 : h4.length = h.length := by rw [q_h4, List.length_set, ln_h2]
      refine W_seq (y_xput (n_div (i := v1.natAbs) (j := 2) (i_abs (i := v1) (r_var rfl)) rfl (by omega)) (r_var rfl) rfl w_h2_0 rfl (by show 6 < 1000000; omega) (Eq.trans rfl (Eq.symm (Eq.trans q_h4 (congrArg (fun z => List.set h2 l0 (c_RX6cel_at_val_dig_mix_salFINNNNN z)) h_c5))))) ?_
      refine W_lst ?_
      obtain ⟨c7, h_c7, e⟩ := lett_e e
      obtain ⟨h6, q_h6⟩ : ∃ x : MH, x = h4.set l0 (c_RX6cel_at_val_dig_mix_salFINNNNN c7) := ⟨_, rfl⟩
      have w_h6_0 : h6[l0]? = some (c_RX6cel_at_val_dig_mix_salFINNNNN c7) := by rw [q_h6]; exact g_eq w_h4_0
      have fr_h6 : Fr h [l0] h6 := by rw [q_h6]; exact fr_h4.inn (by simp)
      have ln_h6 : h6.length = h.length := by rw [q_h6, List.length_set, ln_h4]
      refine W_seq (y_xput rfl (r_var rfl) rfl w_h4_0 rfl (by show 6 < 1000000; omega) (Eq.trans rfl (Eq.symm (Eq.trans q_h6 (congrArg (fun z => List.set h4 l0 (c_RX6cel_at_val_dig_mix_salFINNNNN z)) h_c7))))) ?_
      refine W_nil ?_
      obtain rfl := some_e e
      exact ⟨_, rfl, fr_h6, ln_h6, w_h6_0⟩
    · refine W_f (r_tst (r_eq (i := (v1 % (2 : Nat)).toNat) (j := 0) (i_modN (i := v1) (j := 2) (i_int (r_var rfl)) rfl (by omega)) rfl)) hc ?_
      obtain ⟨c9, h_c9, e⟩ := lett_e e
      obtain ⟨h8, q_h8⟩ : ∃ x : MH, x = h2.set l0 (c_RX6cel_at_val_dig_mix_salFINNNNN c9) := ⟨_, rfl⟩
      have w_h8_0 : h8[l0]? = some (c_RX6cel_at_val_dig_mix_salFINNNNN c9) := by rw [q_h8]; exact g_eq w_h2_0
      have fr_h8 : Fr h [l0] h8 := by rw [q_h8]; exact fr_h2.inn (by simp)
      have ln_h8 : h8.length = h.length := by rw [q_h8, List.length_set, ln_h2]
      refine W_seq (y_xput (r_mod (i := (((c3.2.2.2.2.2 * 16807) + (v1.natAbs / 2)) + 1)) (j := 2147483647) (i_int (r_add (i := ((c3.2.2.2.2.2 * 16807) + (v1.natAbs / 2))) (j := 1) (r_add (i := (c3.2.2.2.2.2 * 16807)) (j := (v1.natAbs / 2)) (n_mul (i := c3.2.2.2.2.2) (j := 16807) (y_xget (r_var rfl) rfl w_h2_0 rfl rfl) rfl (.inr ⟨by omega, by omega⟩)) (n_div (i := v1.natAbs) (j := 2) (i_abs (i := v1) (r_var rfl)) rfl (by omega))) rfl)) rfl (by omega)) (r_var rfl) rfl w_h2_0 rfl (by show 6 < 1000000; omega) (Eq.trans rfl (Eq.symm (Eq.trans q_h8 (congrArg (fun z => List.set h2 l0 (c_RX6cel_at_val_dig_mix_salFINNNNN z)) h_c9))))) ?_
      refine W_lst ?_
      obtain ⟨c11, h_c11, e⟩ := lett_e e
      obtain ⟨h10, q_h10⟩ : ∃ x : MH, x = h8.set l0 (c_RX6cel_at_val_dig_mix_salFINNNNN c11) := ⟨_, rfl⟩
      have w_h10_0 : h10[l0]? = some (c_RX6cel_at_val_dig_mix_salFINNNNN c11) := by rw [q_h10]; exact g_eq w_h8_0
      have fr_h10 : Fr h [l0] h10 := by rw [q_h10]; exact fr_h8.inn (by simp)
      have ln_h10 : h10.length = h.length := by rw [q_h10, List.length_set, ln_h8]
      refine W_seq (y_xput rfl (r_var rfl) rfl w_h8_0 rfl (by show 6 < 1000000; omega) (Eq.trans rfl (Eq.symm (Eq.trans q_h10 (congrArg (fun z => List.set h8 l0 (c_RX6cel_at_val_dig_mix_salFINNNNN z)) h_c11))))) ?_
      refine W_nil ?_
      obtain rfl := some_e e
      exact ⟨_, rfl, fr_h10, ln_h10, w_h10_0⟩
  have hh : h9 = (h.set l0 (c_RX6cel_at_val_dig_mix_salFINNNNN r)) := fr9.e1 ln9 w9_0
  rw [← hh]
  exact x_law_load.trans (by rw [eo]; exact e9)
def tb1_law_draw (many : Nat) (q1 : ((List Int) × Nat × Nat × Nat × Nat × Nat)) (k2 : Nat) : Option (Lp ((List Int) × Nat × Nat × Nat × Nat × Nat) (Nat × ((List Int) × Nat × Nat × Nat × Nat × Nat))) :=
  if ((decide (0 < q1.2.2.2.1)) && (decide (1 < q1.2.2.1))) = true then (gd (0 < many) <|
  lett ((q1.2.2.1 % many) : Nat) fun digit6 =>
  gd (1 ≤ q1.2.2.2.1) <|
  lett ((q1.1, q1.2.1, q1.2.2.1, (q1.2.2.2.1 - 1), q1.2.2.2.2.1, q1.2.2.2.2.2) : ((List Int) × Nat × Nat × Nat × Nat × Nat)) fun c9 =>
  gd (0 < many ∧ many < 1000000000) <|
  lett ((c9.1, c9.2.1, (c9.2.2.1 / many), c9.2.2.2.1, c9.2.2.2.2.1, c9.2.2.2.2.2) : ((List Int) × Nat × Nat × Nat × Nat × Nat)) fun c12 =>
  some (.rt (digit6, c12))) else (if ((decide (0 < q1.2.2.2.2.1)) || (decide (q1.1.length ≤ q1.2.1))) = true then (some (.bk q1)) else ((t_law_load q1).bind fun r13 =>
  some (.nx r13)))
def t_law_draw (tape : ((List Int) × Nat × Nat × Nat × Nat × Nat)) (many : Nat) : Option (Nat × ((List Int) × Nat × Nat × Nat × Nat × Nat)) :=
  if (decide (many < 2)) = true then (some (0, tape)) else (lpB (forR (tb1_law_draw many) (List.range 64) tape) (fun q16 =>
  (if (decide (0 < q16.2.2.2.2.1)) = true then (gd (1 ≤ q16.2.2.2.2.1) <|
  lett ((q16.1, q16.2.1, q16.2.2.1, q16.2.2.2.1, (q16.2.2.2.2.1 - 1), q16.2.2.2.2.2) : ((List Int) × Nat × Nat × Nat × Nat × Nat)) fun c24 =>
  some c24) else (some q16) : Option ((List Int) × Nat × Nat × Nat × Nat × Nat)).bind fun j18 =>
  lett ((j18.1, j18.2.1, j18.2.2.1, j18.2.2.2.1, j18.2.2.2.2.1, (((j18.2.2.2.2.2 * 48271) + 7) % 2147483647)) : ((List Int) × Nat × Nat × Nat × Nat × Nat)) fun c26 =>
  gd (0 < many) <|
  some ((((((c26.2.2.2.2.2 / 13) * 69621) + 5) % 1000003) % many), c26)) (fun (r28 : (Nat × ((List Int) × Nat × Nat × Nat × Nat × Nat))) => some r28))
theorem tt_law_draw {h : MH} {tape : ((List Int) × Nat × Nat × Nat × Nat × Nat)} {l0 : Nat} {many : Nat} {r : (Nat × ((List Int) × Nat × Nat × Nat × Nat × Nat))} (w0 : h[l0]? = some (c_RX6cel_at_val_dig_mix_salFINNNNN tape)) (e : t_law_draw tape many = some r) : f_law_draw [.ref l0, (nV many)] h = ok (nV r.1) (h.set l0 (c_RX6cel_at_val_dig_mix_salFINNNNN r.2)) := by
  unfold t_law_draw at e
  obtain ⟨o, eo, h9, e9, fr9, ln9, w9_0⟩ : ∃ o, m_law_draw [some (.ref l0), some ((nV many)), none, none] h = some o ∧ ∃ h9, defK (some o) = ok (nV r.1) h9 ∧ Fr h [l0] h9 ∧ h9.length = h.length ∧ h9[l0]? = some (c_RX6cel_at_val_dig_mix_salFINNNNN r.2) := by
    unfold m_law_draw
    have fr0 : Fr h [l0] h := Fr.refl
    have ln0 : h.length = h.length := rfl
    rcases ite_e e with ⟨hc, e⟩ | ⟨hc, e⟩
    · refine W_st (r_tst (r_lt (i := many) (j := 2) (r_var rfl) rfl)) hc ?_
      refine W_sret rfl ?_
      obtain rfl := some_e e
      exact ⟨_, rfl, fr0, ln0, w0⟩
    · refine W_sf (r_tst (r_lt (i := many) (j := 2) (r_var rfl) rfl)) hc ?_
      refine W_nils ?_
      refine W_joinB e (fun (q1 : ((List Int) × Nat × Nat × Nat × Nat × Nat)) s3 h4 => s3 = [some (.ref l0), some (nV many), none, none] ∧ Fr h [l0] h4 ∧ h4.length = h.length ∧ h4[l0]? = some (c_RX6cel_at_val_dig_mix_salFINNNNN q1)) (fun (r : (Nat × ((List Int) × Nat × Nat × Nat × Nat × Nat))) v h9 => v = (nV r.1) ∧ Fr h [l0] h9 ∧ h9.length = h.length ∧ h9[l0]? = some (c_RX6cel_at_val_dig_mix_salFINNNNN r.2)) (fun o e => W_jfor (e := nV) (xs := (List.range 64)) (f := (tb1_law_draw many)) (fun (q1 : ((List Int) × Nat × Nat × Nat × Nat × Nat)) s3 h4 => s3 = [some (.ref l0), some (nV many), none, none] ∧ Fr h [l0] h4 ∧ h4.length = h.length ∧ h4[l0]? = some (c_RX6cel_at_val_dig_mix_salFINNNNN q1)) (fun (r : (Nat × ((List Int) × Nat × Nat × Nat × Nat × Nat))) v h9 => v = (nV r.1) ∧ Fr h [l0] h9 ∧ h9.length = h.length ∧ h9[l0]? = some (c_RX6cel_at_val_dig_mix_salFINNNNN r.2)) (q_rng (n := 64) rfl (by omega)) ⟨rfl, fr0, ln0, w0⟩ e (fun q1 k2 s h4 o ra e => ?_)) ?_ ?_
      · obtain ⟨rfl, fr_h4, ln_h4, w_h4_0⟩ := ra
        unfold tb1_law_draw at e
        refine W_turn rfl ?_
        unfold b1_law_draw
        refine W_wip' ?_
        rcases ite_e e with ⟨hc, e⟩ | ⟨hc, e⟩
        · refine W_st (r_and (p := (decide (0 < q1.2.2.2.1))) (q := (decide (1 < q1.2.2.1))) (r_tst (r_gt (i := q1.2.2.2.1) (j := 0) (y_xget (r_var rfl) rfl w_h4_0 rfl rfl) rfl)) (fun _ => (r_tst (r_gt (i := q1.2.2.1) (j := 1) (y_xget (r_var rfl) rfl w_h4_0 rfl rfl) rfl)))) hc ?_
          refine W_as ?_
          obtain ⟨g_5, e⟩ := gd_e e
          obtain ⟨digit6, h_digit6, e⟩ := lett_e e
          refine W_seq (setS_ok (ok_lt (f := nV) h_digit6 (r_mod (i := q1.2.2.1) (j := many) (i_int (y_xget (r_var rfl) rfl w_h4_0 rfl rfl)) (r_var rfl) g_5))) ?_
          refine W_as ?_
          obtain ⟨g_7, e⟩ := gd_e e
          obtain ⟨c9, h_c9, e⟩ := lett_e e
          obtain ⟨h8, q_h8⟩ : ∃ x : MH, x = h4.set l0 (c_RX6cel_at_val_dig_mix_salFINNNNN c9) := ⟨_, rfl⟩
          have w_h8_0 : h8[l0]? = some (c_RX6cel_at_val_dig_mix_salFINNNNN c9) := by rw [q_h8]; exact g_eq w_h4_0
          have fr_h8 : Fr h [l0] h8 := by rw [q_h8]; exact fr_h4.inn (by simp)
          have ln_h8 : h8.length = h.length := by rw [q_h8, List.length_set, ln_h4]
          refine W_seq (y_xput (r_sub (i := q1.2.2.2.1) (j := 1) (y_xget (r_var rfl) rfl w_h4_0 rfl rfl) rfl g_7) (r_var rfl) rfl w_h4_0 rfl (by show 6 < 1000000; omega) (Eq.trans rfl (Eq.symm (Eq.trans q_h8 (congrArg (fun z => List.set h4 l0 (c_RX6cel_at_val_dig_mix_salFINNNNN z)) h_c9))))) ?_
          refine W_as ?_
          obtain ⟨g_10, e⟩ := gd_e e
          obtain ⟨c12, h_c12, e⟩ := lett_e e
          obtain ⟨h11, q_h11⟩ : ∃ x : MH, x = h8.set l0 (c_RX6cel_at_val_dig_mix_salFINNNNN c12) := ⟨_, rfl⟩
          have w_h11_0 : h11[l0]? = some (c_RX6cel_at_val_dig_mix_salFINNNNN c12) := by rw [q_h11]; exact g_eq w_h8_0
          have fr_h11 : Fr h [l0] h11 := by rw [q_h11]; exact fr_h8.inn (by simp)
          have ln_h11 : h11.length = h.length := by rw [q_h11, List.length_set, ln_h8]
          refine W_seq (y_xput (n_div (i := c9.2.2.1) (j := many) (y_xget (r_var rfl) rfl w_h8_0 rfl rfl) (r_var rfl) g_10) (r_var rfl) rfl w_h8_0 rfl (by show 6 < 1000000; omega) (Eq.trans rfl (Eq.symm (Eq.trans q_h11 (congrArg (fun z => List.set h8 l0 (c_RX6cel_at_val_dig_mix_salFINNNNN z)) h_c12))))) ?_
          refine W_sret (r_var rfl) ?_
          obtain rfl := some_e e
          exact ⟨_, rfl, _, _, rfl, ⟨rfl, fr_h11, ln_h11, w_h11_0⟩⟩
        · refine W_sf (r_and (p := (decide (0 < q1.2.2.2.1))) (q := (decide (1 < q1.2.2.1))) (r_tst (r_gt (i := q1.2.2.2.1) (j := 0) (y_xget (r_var rfl) rfl w_h4_0 rfl rfl) rfl)) (fun _ => (r_tst (r_gt (i := q1.2.2.1) (j := 1) (y_xget (r_var rfl) rfl w_h4_0 rfl rfl) rfl)))) hc ?_
          refine W_nils ?_
          rcases ite_e e with ⟨hc, e⟩ | ⟨hc, e⟩
          · refine W_st (r_or (p := (decide (0 < q1.2.2.2.2.1))) (q := (decide (q1.1.length ≤ q1.2.1))) (r_tst (r_gt (i := q1.2.2.2.2.1) (j := 0) (y_xget (r_var rfl) rfl w_h4_0 rfl rfl) rfl)) (fun _ => (r_tst (r_ge (i := q1.2.1) (j := q1.1.length) (y_xget (r_var rfl) rfl w_h4_0 rfl rfl) (y_len (f := MV.int) (xs := q1.1) (y_xget (r_var rfl) rfl w_h4_0 rfl rfl) rfl))))) hc ?_
            refine W_sout rfl trivial ?_
            obtain rfl := some_e e
            exact ⟨_, rfl, _, _, rfl, ⟨rfl, fr_h4, ln_h4, w_h4_0⟩⟩
          · refine W_sf (r_or (p := (decide (0 < q1.2.2.2.2.1))) (q := (decide (q1.1.length ≤ q1.2.1))) (r_tst (r_gt (i := q1.2.2.2.2.1) (j := 0) (y_xget (r_var rfl) rfl w_h4_0 rfl rfl) rfl)) (fun _ => (r_tst (r_ge (i := q1.2.1) (j := q1.1.length) (y_xget (r_var rfl) rfl w_h4_0 rfl rfl) (y_len (f := MV.int) (xs := q1.1) (y_xget (r_var rfl) rfl w_h4_0 rfl rfl) rfl))))) hc ?_
            refine W_nils ?_
            refine W_lst ?_
            obtain ⟨r13, b_r13, e⟩ := obind e
            have c14 := tt_law_load (h := h4) w_h4_0 b_r13
            obtain ⟨h15, q_h15⟩ : ∃ x : MH, x = h4.set l0 (c_RX6cel_at_val_dig_mix_salFINNNNN r13) := ⟨_, rfl⟩
            have w_h15_0 : h15[l0]? = some (c_RX6cel_at_val_dig_mix_salFINNNNN r13) := by rw [q_h15]; exact g_eq w_h4_0
            have fr_h15 : Fr h [l0] h15 := by rw [q_h15]; exact fr_h4.inn (by simp)
            have ln_h15 : h15.length = h.length := by rw [q_h15, List.length_set, ln_h4]
            rw [← q_h15] at c14
            refine W_seq (t_drop (callM_ok (consA_ok (r_var rfl) r_nil) c14)) ?_
            refine W_nil ?_
            obtain rfl := some_e e
            exact ⟨_, rfl, _, _, .inl rfl, ⟨rfl, fr_h15, ln_h15, w_h15_0⟩⟩
      · rintro q16 _ h17 e ⟨rfl, fr_h17, ln_h17, w_h17_0⟩
        obtain ⟨j18, b_j18, e⟩ := obind e
        refine W_join (Q := fun s20 h21 => s20 = [some (.ref l0), some (nV many), none, none] ∧ Fr h [l0] h21 ∧ h21.length = h.length ∧ h21[l0]? = some (c_RX6cel_at_val_dig_mix_salFINNNNN j18)) ?_ ?_
        · rcases ite_e b_j18 with ⟨hc, e⟩ | ⟨hc, e⟩
          · refine W_t (r_tst (r_gt (i := q16.2.2.2.2.1) (j := 0) (y_xget (r_var rfl) rfl w_h17_0 rfl rfl) rfl)) hc ?_
            refine W_lst ?_
            obtain ⟨g_22, e⟩ := gd_e e
            obtain ⟨c24, h_c24, e⟩ := lett_e e
            obtain ⟨h23, q_h23⟩ : ∃ x : MH, x = h17.set l0 (c_RX6cel_at_val_dig_mix_salFINNNNN c24) := ⟨_, rfl⟩
            have w_h23_0 : h23[l0]? = some (c_RX6cel_at_val_dig_mix_salFINNNNN c24) := by rw [q_h23]; exact g_eq w_h17_0
            have fr_h23 : Fr h [l0] h23 := by rw [q_h23]; exact fr_h17.inn (by simp)
            have ln_h23 : h23.length = h.length := by rw [q_h23, List.length_set, ln_h17]
            refine W_seq (y_xput (r_sub (i := q16.2.2.2.2.1) (j := 1) (y_xget (r_var rfl) rfl w_h17_0 rfl rfl) rfl g_22) (r_var rfl) rfl w_h17_0 rfl (by show 6 < 1000000; omega) (Eq.trans rfl (Eq.symm (Eq.trans q_h23 (congrArg (fun z => List.set h17 l0 (c_RX6cel_at_val_dig_mix_salFINNNNN z)) h_c24))))) ?_
            refine W_nil ?_
            obtain rfl := some_e e
            exact ⟨_, _, rfl, rfl, fr_h23, ln_h23, w_h23_0⟩
          · refine W_f (r_tst (r_gt (i := q16.2.2.2.2.1) (j := 0) (y_xget (r_var rfl) rfl w_h17_0 rfl rfl) rfl)) hc ?_
            refine W_nil ?_
            obtain rfl := some_e e
            exact ⟨_, _, rfl, rfl, fr_h17, ln_h17, w_h17_0⟩
        rintro _ h19 ⟨rfl, fr_h19, ln_h19, w_h19_0⟩
        obtain ⟨c26, h_c26, e⟩ := lett_e e
        obtain ⟨h25, q_h25⟩ : ∃ x : MH, x = h19.set l0 (c_RX6cel_at_val_dig_mix_salFINNNNN c26) := ⟨_, rfl⟩
        have w_h25_0 : h25[l0]? = some (c_RX6cel_at_val_dig_mix_salFINNNNN c26) := by rw [q_h25]; exact g_eq w_h19_0
        have fr_h25 : Fr h [l0] h25 := by rw [q_h25]; exact fr_h19.inn (by simp)
        have ln_h25 : h25.length = h.length := by rw [q_h25, List.length_set, ln_h19]
        refine W_seq (y_xput (r_mod (i := ((j18.2.2.2.2.2 * 48271) + 7)) (j := 2147483647) (i_int (r_add (i := (j18.2.2.2.2.2 * 48271)) (j := 7) (n_mul (i := j18.2.2.2.2.2) (j := 48271) (y_xget (r_var rfl) rfl w_h19_0 rfl rfl) rfl (.inr ⟨by omega, by omega⟩)) rfl)) rfl (by omega)) (r_var rfl) rfl w_h19_0 rfl (by show 6 < 1000000; omega) (Eq.trans rfl (Eq.symm (Eq.trans q_h25 (congrArg (fun z => List.set h19 l0 (c_RX6cel_at_val_dig_mix_salFINNNNN z)) h_c26))))) ?_
        obtain ⟨g_27, e⟩ := gd_e e
        refine W_ret (r_mod (i := ((((c26.2.2.2.2.2 / 13) * 69621) + 5) % 1000003)) (j := many) (r_mod (i := (((c26.2.2.2.2.2 / 13) * 69621) + 5)) (j := 1000003) (i_int (r_add (i := ((c26.2.2.2.2.2 / 13) * 69621)) (j := 5) (n_mul (i := (c26.2.2.2.2.2 / 13)) (j := 69621) (n_div (i := c26.2.2.2.2.2) (j := 13) (y_xget (r_var rfl) rfl w_h25_0 rfl rfl) rfl (by omega)) rfl (.inr ⟨by omega, by omega⟩)) rfl)) rfl (by omega)) (r_var rfl) g_27) ?_
        obtain rfl := some_e e
        exact ⟨_, rfl, fr_h25, ln_h25, w_h25_0⟩
      · intro r28 v2 h2 e
        rintro ⟨rfl, fr9, ln9, w9_0⟩
        obtain rfl := some_e e
        exact ⟨_, rfl, fr9, ln9, w9_0⟩
  have hh : h9 = (h.set l0 (c_RX6cel_at_val_dig_mix_salFINNNNN r.2)) := fr9.e1 ln9 w9_0
  rw [← hh]
  exact x_law_draw.trans (by rw [eo]; exact e9)
def t_law_shuffled (tape : ((List Int) × Nat × Nat × Nat × Nat × Nat)) (many : Nat) : Option ((List Nat) × ((List Int) × Nat × Nat × Nat × Nat × Nat)) :=
  gd (many ≤ 400000) <|
  lett ((List.range many) : (List Nat)) fun c4 =>
  gd (c4.length ≤ 400000) <|
  gd ((List.range c4.length).length ≤ 400000) <|
  (lcW (fun (q15 : (((List Int) × Nat × Nat × Nat × Nat × Nat) × (List Nat))) (k6 : Nat) => ((t_law_draw q15.1 q15.2.length).bind fun r17 => gd (q15.2.length ≤ 400000) <| (q15.2[r17.1]?).bind fun v21 => lett ((q15.2.eraseIdx r17.1) : (List Nat)) fun c23 => some (some v21, (r17.2, c23)) : Option (Option Nat × (((List Int) × Nat × Nat × Nat × Nat × Nat) × (List Nat))))) (List.range c4.length) (tape, c4)).bind fun r24 =>
  some (r24.1, r24.2.1)
theorem tt_law_shuffled {h : MH} {tape : ((List Int) × Nat × Nat × Nat × Nat × Nat)} {l0 : Nat} {many : Nat} {r : ((List Nat) × ((List Int) × Nat × Nat × Nat × Nat × Nat))} (w0 : h[l0]? = some (c_RX6cel_at_val_dig_mix_salFINNNNN tape)) (e : t_law_shuffled tape many = some r) : f_law_shuffled [.ref l0, (nV many)] h = ok (MV.fls (List.map nV r.1)) (h.set l0 (c_RX6cel_at_val_dig_mix_salFINNNNN r.2)) := by
  unfold t_law_shuffled at e
  obtain ⟨o, eo, h9, e9, fr9, w9_0⟩ : ∃ o, m_law_shuffled [some (.ref l0), some ((nV many)), none, none] h = some o ∧ ∃ h9, defK (some o) = ok (MV.fls (List.map nV r.1)) h9 ∧ Fr h [l0] h9 ∧ h9[l0]? = some (c_RX6cel_at_val_dig_mix_salFINNNNN r.2) := by
    unfold m_law_shuffled
    have fr0 : Fr h [l0] h := Fr.refl
    obtain ⟨g_1, e⟩ := gd_e e
    obtain ⟨c4, h_c4, e⟩ := lett_e e
    obtain ⟨p2, q_p2⟩ : ∃ x : Nat, x = h.length := ⟨_, rfl⟩
    obtain ⟨h3, q_h3⟩ : ∃ x : MH, x = h ++ [(MO.lst (List.map nV c4))] := ⟨_, rfl⟩
    have n_p2_0 : l0 ≠ p2 := by rw [q_p2]; exact Nat.ne_of_lt (g_lt w0)
    have w_h3_0 : h3[l0]? = some (c_RX6cel_at_val_dig_mix_salFINNNNN tape) := by rw [q_h3]; exact g_ap w0
    have w_h3_1 : h3[p2]? = some (MO.lst (List.map nV c4)) := by rw [q_h3]; exact g_nw q_p2
    have lo_p2 : h.length ≤ p2 := by rw [q_p2]; exact fr0.1
    have fr_h3 : Fr h [l0] h3 := by rw [q_h3]; exact fr0.app
    refine W_seq (setS_ok (y_ref (z_rng (r_var rfl) g_1) q_p2 (Eq.trans q_h3 (congrArg (fun z => h ++ [(MO.lst (List.map nV z))]) h_c4)))) ?_
    obtain ⟨g_5, e⟩ := gd_e e
    obtain ⟨g_14, e⟩ := gd_e e
    obtain ⟨r24, b_r24, e⟩ := obind e
    obtain ⟨h25, z26, fr_h25, w_h25_0, w_h25_1⟩ : ∃ h25, (lcM (rng1 (consA (bltM lenF (consA (varM 2) nilA)) nilA)) [3] (one 3) yesT (mthM popAtF (varM 2) (consA (callM f_law_draw [] (consA (varM 0) (consA (bltM lenF (consA (varM 2) nilA)) nilA))) nilA))) [some (.ref l0), some (nV many), some (.ref p2), none] h3 = ok (List.map nV r24.1) h25 ∧ Fr h [l0] h25 ∧ h25[l0]? = some (c_RX6cel_at_val_dig_mix_salFINNNNN r24.2.1) ∧ h25[p2]? = some (MO.lst (List.map nV r24.2.2)) := by
      refine z_lcW (f := nV) (g := nV) (xs := (List.range c4.length)) (fun (q15 : (((List Int) × Nat × Nat × Nat × Nat × Nat) × (List Nat))) (h16 : MH) => Fr h [l0] h16 ∧ h16[l0]? = some (c_RX6cel_at_val_dig_mix_salFINNNNN q15.1) ∧ h16[p2]? = some (MO.lst (List.map nV q15.2))) (q_rng (n := c4.length) (y_len (f := nV) (xs := c4) (r_var rfl) (sq_ref w_h3_1)) g_5) g_14 (fun _ => rfl) (fun q15 k6 h16 o ra e => ?_) ⟨fr_h3, w_h3_0, w_h3_1⟩ b_r24
      obtain ⟨fr_h16, w_h16_0, w_h16_1⟩ := ra
      obtain ⟨r17, b_r17, e⟩ := obind e
      have c18 := tt_law_draw (h := h16) w_h16_0 b_r17
      obtain ⟨h19, q_h19⟩ : ∃ x : MH, x = h16.set l0 (c_RX6cel_at_val_dig_mix_salFINNNNN r17.2) := ⟨_, rfl⟩
      have w_h19_0 : h19[l0]? = some (c_RX6cel_at_val_dig_mix_salFINNNNN r17.2) := by rw [q_h19]; exact g_eq w_h16_0
      have w_h19_1 : h19[p2]? = some (MO.lst (List.map nV q15.2)) := by rw [q_h19]; exact g_ne w_h16_1 n_p2_0
      have fr_h19 : Fr h [l0] h19 := by rw [q_h19]; exact fr_h16.inn (by simp)
      rw [← q_h19] at c18
      obtain ⟨g_20, e⟩ := gd_e e
      obtain ⟨v21, b_v21, e⟩ := obind e
      obtain ⟨c23, h_c23, e⟩ := lett_e e
      obtain ⟨h22, q_h22⟩ : ∃ x : MH, x = h19.set p2 (MO.lst (List.map nV c23)) := ⟨_, rfl⟩
      have w_h22_0 : h22[l0]? = some (c_RX6cel_at_val_dig_mix_salFINNNNN r17.2) := by rw [q_h22]; exact g_ne w_h19_0 (Ne.symm n_p2_0)
      have w_h22_1 : h22[p2]? = some (MO.lst (List.map nV c23)) := by rw [q_h22]; exact g_eq w_h19_1
      have fr_h22 : Fr h [l0] h22 := by rw [q_h22]; exact fr_h19.out lo_p2
      obtain rfl := some_e e
      exact ⟨_, _, ⟨_, rfl, rfl, (y_popAt (f := nV) (xs := q15.2) (i := r17.1) (r_var rfl) (consA_ok (callM_ok (consA_ok (r_var rfl) (consA_ok (y_len (f := nV) (xs := q15.2) (r_var rfl) (sq_ref w_h16_1)) r_nil)) c18) r_nil) w_h16_1 w_h19_1 b_v21 g_20 (Eq.trans q_h22 (congrArg (fun z => List.set h19 p2 (MO.lst (List.map nV z))) h_c23)))⟩, ⟨fr_h22, w_h22_0, w_h22_1⟩⟩
    refine W_ret (r_fls z26) ?_
    obtain rfl := some_e e
    exact ⟨_, rfl, fr_h25, w_h25_0⟩
  have ef : defM 2 4 m_law_shuffled [.ref l0, (nV many)] h = ok (MV.fls (List.map nV r.1)) h9 := x_law_shuffled.trans (by rw [eo]; exact e9)
  have := cut_fr ef fr9 ((fun (q : (List Nat)) => clo_F (f := nV) (fun _ => rfl)) r.1) (fun l hl => by rw [List.mem_singleton.mp hl]; exact ⟨_, w9_0, (and_i ((fun (q : (List Int)) => clo_F (f := MV.int) (fun _ => rfl)) r.2.1) (and_i ((fun _ => rfl) r.2.2.1) (and_i ((fun _ => rfl) r.2.2.2.1) (and_i ((fun _ => rfl) r.2.2.2.2.1) (and_i ((fun _ => rfl) r.2.2.2.2.2.1) (and_i ((fun _ => rfl) r.2.2.2.2.2.2) (rfl)))))))⟩)
  rwa [fr9.to1 w9_0] at this
def tb1_law_closed (q12 : (List (List Bool))) (xy13 : (Nat × Nat)) : Option (List (List Bool)) :=
  (q12[xy13.1]?).bind fun row16 =>
  (q12[xy13.1]?).bind fun row18 =>
  gd (xy13.2 < row18.length) <|
  lett (q12.set xy13.1 (row18.set xy13.2 true) : (List (List Bool))) fun c21 =>
  some c21
def tb2_law_closed (many : Nat) (mid27 : Nat) (q32 : (List (List Bool))) (x33 : Nat) : Option (List (List Bool)) :=
  (q32[x33]?).bind fun row37 =>
  (row37[mid27]?).bind fun v39 =>
  if v39 = true then (gd (many ≤ 400000) <|
  gd ((List.range many).length ≤ 400000) <|
  (lcO (fun y41 : Nat =>  some true) (fun y41 : Nat => ((q32[x33]?).bind fun row42 => (row42[y41]?).bind fun v44 => (if v44 = true then (some true) else ((q32[mid27]?).bind fun row45 => (row45[y41]?).bind fun v47 => some v47)).bind fun c48 => some c48 : Option Bool)) (List.range many)).bind fun r51 =>
  lett (r51 : (List Bool)) fun row53 =>
  gd (x33 < q32.length) <|
  lett (q32.set x33 row53 : (List (List Bool))) fun c55 =>
  some c55) else (some q32)
def tb3_law_closed (many : Nat) (q26 : (List (List Bool))) (mid27 : Nat) : Option (List (List Bool)) :=
  gd (many ≤ 400000) <|
  (forO (tb2_law_closed many mid27) (List.range many) q26).bind fun q59 =>
  some q59
def t_law_closed (many : Nat) (links : (List (Nat × Nat))) : Option (List (List Bool)) :=
  gd (many ≤ 400000) <|
  gd ((List.range many).length ≤ 400000) <|
  (lcO (fun _ => some true) (fun k2 : Nat => (gd ([false].length * many ≤ 400000) <| gd (many ≤ 400000) <| some (List.replicate many [false]).flatten : Option (List Bool))) (List.range many)).bind fun rows7 =>
  (forO tb1_law_closed links rows7).bind fun q23 =>
  gd (many ≤ 400000) <|
  (forO (tb3_law_closed many) (List.range many) q23).bind fun q62 =>
  some q62
theorem tt_law_closed {h : MH} {many : Nat} {links : (List (Nat × Nat))} {l1 : Nat} {r : (List (List Bool))} (w1 : h[l1]? = some (MO.lst (List.map prV links))) (e : t_law_closed many links = some r) : f_law_closed [(nV many), .ref l1] h = ok (MV.fls (List.map e_FB r)) h := by
  unfold t_law_closed at e
  obtain ⟨o, eo, h9, e9, fr9⟩ : ∃ o, m_law_closed [some ((nV many)), some (.ref l1), none, none, none, none, none, none] h = some o ∧ ∃ h9, defK (some o) = ok (MV.fls (List.map e_FB r)) h9 ∧ Fr h [] h9 := by
    unfold m_law_closed
    have fr0 : Fr h [] h := Fr.refl
    obtain ⟨g_1, e⟩ := gd_e e
    obtain ⟨g_6, e⟩ := gd_e e
    obtain ⟨rows7, b_rows7, e⟩ := obind e
    obtain ⟨p8, R9, h10, a11, w_h10, fx_h10, lx_p8⟩ := y_mx (mi := (rng1 (consA (varM 0) nilA))) (g := (one 3)) (vs := [3]) (s := [some (nV many), some (.ref l1), none, none, none, none, none, none]) (h := h) (e := nV) (xs := (List.range many)) (v := (fun k2 : Nat => (gd ([false].length * many ≤ 400000) <| gd (many ≤ 400000) <| some (List.replicate many [false]).flatten : Option (List Bool)))) (el := (repL (flsM (lstM (consA (cM (.bl false)) nilA))) (varM 0))) MV.bl (q_rng (n := many) (r_var rfl) g_1) g_6 (fun _ => rfl) (fun k2 y h3 e => by
          obtain ⟨g_4, e⟩ := gd_e e
          obtain ⟨g_5, e⟩ := gd_e e
          obtain rfl := some_e e
          exact (z_rep (f := MV.bl) (xs := [false]) (i := many) (r_fls (r_lst (consA_ok rfl r_nil) (by show 1 ≤ 400000; omega))) (r_var rfl) rfl g_4 g_5)) b_rows7 (b := h.length) fr0.1
    have n_R9_1 : l1 ∉ p8 :: R9 := fun z => Nat.lt_irrefl _ (Nat.lt_of_lt_of_le (g_lt w1) (lx_p8 _ z))
    have w_h10_1 : h10[l1]? = some (MO.lst (List.map prV links)) := fx_h10.get w1 List.not_mem_nil
    have fr_h10 : Fr h [] h10 := fr0.tr0 fx_h10
    refine W_seq (setS_ok a11) ?_
    obtain ⟨q23, b_q23, e⟩ := obind e
    refine W_forOd (e := prV) (xs := links) (f := tb1_law_closed) (fun (q12 : (List (List Bool))) s14 h15 => s14 = [some (nV many), some (.ref l1), some (.ref p8), none, none, none, none, none] ∧ Fr h [] h15 ∧ h15[l1]? = some (MO.lst (List.map prV links)) ∧ Mx h15 h.length p8 R9 MV.bl q12) (y_dyn (xs := links) (r_var rfl) w_h10_1) (fun _ _ _ ra => by obtain ⟨rfl, fr_h15, w_h15_1, w_h15_2⟩ := ra; exact w_h15_1) ⟨rfl, fr_h10, w_h10_1, w_h10⟩ b_q23 (fun q12 xy13 s h15 b ra e => ?_) ?_
    · obtain ⟨rfl, fr_h15, w_h15_1, w_h15_2⟩ := ra
      unfold tb1_law_closed at e
      refine W_turn rfl ?_
      unfold b1_law_closed
      refine W_wip' ?_
      obtain ⟨row16, b_row16, e⟩ := obind e
      obtain ⟨rr17, er_rr17, wr_rr17⟩ := Mx.get w_h15_2 b_row16
      refine W_seq (setS_ok (y_mxrow (i := xy13.1) (r_var rfl) (r_var rfl) w_h15_2 er_rr17)) ?_
      refine W_lst ?_
      obtain ⟨row18, b_row18, e⟩ := obind e
      have wr19 := w_h15_2.2.2.2.2 _ _ _ er_rr17 b_row18
      obtain ⟨g_20, e⟩ := gd_e e
      obtain ⟨c21, h_c21, e⟩ := lett_e e
      obtain ⟨h22, q_h22⟩ : ∃ x : MH, x = h15.set rr17 (MO.lst (List.map MV.bl (row18.set xy13.2 true))) := ⟨_, rfl⟩
      have w_h22_1 : h22[l1]? = some (MO.lst (List.map prV links)) := by rw [q_h22]; exact g_ne w_h15_1 (at_nin er_rr17 n_R9_1)
      have w_h22_2 : Mx h22 h.length p8 R9 MV.bl c21 := by rw [q_h22, h_c21]; exact Mx.put w_h15_2 er_rr17
      have fr_h22 : Fr h [] h22 := by rw [q_h22]; exact Fr.out fr_h15 (Mx.low w_h15_2 _ (List.mem_cons_of_mem _ (List.mem_of_getElem? er_rr17)))
      refine W_seq (y_mxput (f := MV.bl) (row := row18) (j := xy13.2) (x := true) (er := varM 0) (zs := []) rfl (r_var rfl) (r_var rfl) wr19 g_20 q_h22) ?_
      refine W_nil ?_
      obtain rfl := some_e e
      exact ⟨_, rfl, _, _, .inl rfl, ⟨rfl, fr_h22, w_h22_1, w_h22_2⟩⟩
    rintro _ h24 ⟨rfl, fr_h24, w_h24_1, w_h24_2⟩
    obtain ⟨g_25, e⟩ := gd_e e
    obtain ⟨q62, b_q62, e⟩ := obind e
    refine W_forO (e := nV) (xs := (List.range many)) (f := (tb3_law_closed many)) (fun (q26 : (List (List Bool))) s29 h30 => ∃ R28 : List Nat, s29 = [some (nV many), some (.ref l1), some (.ref p8), none, none, none, none, none] ∧ Fr h [] h30 ∧ h30[l1]? = some (MO.lst (List.map prV links)) ∧ Mx h30 h.length p8 R28 MV.bl q26 ∧ l1 ∉ p8 :: R28) (q_rng (n := many) (r_var rfl) g_25) ⟨_, rfl, fr_h24, w_h24_1, w_h24_2, n_R9_1⟩ b_q62 (fun q26 mid27 s h30 b ra e => ?_) ?_
    · obtain ⟨R28, rfl, fr_h30, w_h30_1, w_h30_2, n_R28_1⟩ := ra
      unfold tb3_law_closed at e
      refine W_turn rfl ?_
      unfold b3_law_closed
      refine W_wip' ?_
      refine W_lst ?_
      obtain ⟨g_31, e⟩ := gd_e e
      obtain ⟨q59, b_q59, e⟩ := obind e
      refine W_forO (e := nV) (xs := (List.range many)) (f := (tb2_law_closed many mid27)) (fun (q32 : (List (List Bool))) s35 h36 => ∃ R34 : List Nat, s35 = [some (nV many), some (.ref l1), some (.ref p8), none, none, none, none, some (nV mid27)] ∧ Fr h [] h36 ∧ h36[l1]? = some (MO.lst (List.map prV links)) ∧ Mx h36 h.length p8 R34 MV.bl q32 ∧ l1 ∉ p8 :: R34) (q_rng (n := many) (r_var rfl) g_31) ⟨_, rfl, fr_h30, w_h30_1, w_h30_2, n_R28_1⟩ b_q59 (fun q32 x33 s h36 b ra e => ?_) ?_
      · obtain ⟨R34, rfl, fr_h36, w_h36_1, w_h36_2, n_R34_1⟩ := ra
        unfold tb2_law_closed at e
        refine W_turn rfl ?_
        unfold b2_law_closed
        refine W_wip' ?_
        obtain ⟨row37, b_row37, e⟩ := obind e
        obtain ⟨rr38, er_rr38, wr_rr38⟩ := Mx.get w_h36_2 b_row37
        obtain ⟨v39, b_v39, e⟩ := obind e
        rcases ite_e e with ⟨hc, e⟩ | ⟨hc, e⟩
        · refine W_t (r_tru (y_ix (f := MV.bl) (xs := row37) (i := mid27) (y_mxrow (i := x33) (r_var rfl) (r_var rfl) w_h36_2 er_rr38) (r_var rfl) (sq_ref wr_rr38) b_v39)) hc ?_
          refine W_lst ?_
          obtain ⟨g_40, e⟩ := gd_e e
          obtain ⟨g_50, e⟩ := gd_e e
          obtain ⟨r51, b_r51, e⟩ := obind e
          have z52 : (lcM (rng1 (consA (varM 0) nilA)) [5] (one 5) yesT (orV (opM ixF (opM ixF (varM 2) (varM 4)) (varM 5)) (opM ixF (opM ixF (varM 2) (varM 7)) (varM 5)))) [some (nV many), some (.ref l1), some (.ref p8), none, some (nV x33), none, none, some (nV mid27)] h36 = ok (List.map MV.bl r51) h36 := z_lcO (f := nV) (g := MV.bl) (xs := (List.range many)) (q_rng (n := many) (r_var rfl) g_40) g_50 (fun _ => rfl)
              (fun y41 b e => by
                obtain rfl := some_e e
                exact rfl)
              (fun y41 y e => by
                obtain ⟨row42, b_row42, e⟩ := obind e
                obtain ⟨rr43, er_rr43, wr_rr43⟩ := Mx.get w_h36_2 b_row42
                obtain ⟨v44, b_v44, e⟩ := obind e
                obtain ⟨c48, b_c48, e⟩ := obind e
                have a49 : (orV (opM ixF (opM ixF (varM 2) (varM 4)) (varM 5)) (opM ixF (opM ixF (varM 2) (varM 7)) (varM 5))) [some (nV many), some (.ref l1), some (.ref p8), none, some (nV x33), some (nV y41), none, some (nV mid27)] h36 = ok (MV.bl c48) h36 := by
                  rcases ite_e b_c48 with ⟨hc, e⟩ | ⟨hc, e⟩
                  · skip
                    obtain rfl := some_e e
                    exact y_orVt (y_ix (f := MV.bl) (xs := row42) (i := y41) (y_mxrow (i := x33) (r_var rfl) (r_var rfl) w_h36_2 er_rr43) (r_var rfl) (sq_ref wr_rr43) b_v44) hc
                  · skip
                    obtain ⟨row45, b_row45, e⟩ := obind e
                    obtain ⟨rr46, er_rr46, wr_rr46⟩ := Mx.get w_h36_2 b_row45
                    obtain ⟨v47, b_v47, e⟩ := obind e
                    obtain rfl := some_e e
                    exact y_orVf (y_ix (f := MV.bl) (xs := row42) (i := y41) (y_mxrow (i := x33) (r_var rfl) (r_var rfl) w_h36_2 er_rr43) (r_var rfl) (sq_ref wr_rr43) b_v44) hc (y_ix (f := MV.bl) (xs := row45) (i := y41) (y_mxrow (i := mid27) (r_var rfl) (r_var rfl) w_h36_2 er_rr46) (r_var rfl) (sq_ref wr_rr46) b_v47)
                obtain rfl := some_e e
                exact a49) b_r51
          obtain ⟨row53, h_row53, e⟩ := lett_e e
          obtain ⟨g_54, e⟩ := gd_e e
          obtain ⟨c55, h_c55, e⟩ := lett_e e
          obtain ⟨p57, q_p57⟩ : ∃ x : Nat, x = h36.length := ⟨_, rfl⟩
          obtain ⟨R58, q_R58⟩ : ∃ x : List Nat, x = R34.set x33 p57 := ⟨_, rfl⟩
          obtain ⟨h56, q_h56⟩ : ∃ x : MH, x = (h36 ++ [MO.lst (List.map MV.bl row53)]).set p8 (MO.lst (List.map MV.ref (R34.set x33 p57))) := ⟨_, rfl⟩
          have w_h56_1 : h56[l1]? = some (MO.lst (List.map prV links)) := by rw [q_h56]; exact g_ne (g_ap w_h36_1) (fun z => n_R34_1 (by rw [← z]; exact List.mem_cons_self ..))
          have n_R58_1 : l1 ∉ p8 :: R58 := by rw [q_R58]; exact fp_rep n_R34_1 (by rw [q_p57]; exact g_lt w_h36_1)
          have w_h56_2 : Mx h56 h.length p8 R58 MV.bl c55 := by rw [q_h56, q_R58, h_c55]; exact Mx.rep w_h36_2 g_54 q_p57 (by rw [q_p57]; exact fr_h36.1)
          have fr_h56 : Fr h [] h56 := by rw [q_h56]; exact (Fr.app fr_h36).out (Mx.low w_h36_2 _ (List.mem_cons_self ..))
          refine W_seq (y_mxrep (f := MV.bl) (row := row53) (i := x33) (by rw [h_row53]; exact z52) (r_var rfl) (r_var rfl) w_h36_2 g_54 q_p57 q_h56) ?_
          refine W_nil ?_
          obtain rfl := some_e e
          exact ⟨_, rfl, _, _, .inl rfl, ⟨_, rfl, fr_h56, w_h56_1, w_h56_2, n_R58_1⟩⟩
        · refine W_f (r_tru (y_ix (f := MV.bl) (xs := row37) (i := mid27) (y_mxrow (i := x33) (r_var rfl) (r_var rfl) w_h36_2 er_rr38) (r_var rfl) (sq_ref wr_rr38) b_v39)) hc ?_
          refine W_nil ?_
          obtain rfl := some_e e
          exact ⟨_, rfl, _, _, .inl rfl, ⟨_, rfl, fr_h36, w_h36_1, w_h36_2, n_R34_1⟩⟩
      rintro _ h61 ⟨R60, rfl, fr_h61, w_h61_1, w_h61_2, n_R60_1⟩
      refine W_nil ?_
      obtain rfl := some_e e
      exact ⟨_, rfl, _, _, .inl rfl, ⟨_, rfl, fr_h61, w_h61_1, w_h61_2, n_R60_1⟩⟩
    rintro _ h64 ⟨R63, rfl, fr_h64, w_h64_1, w_h64_2, n_R63_1⟩
    obtain ⟨h65, fz66, k_h65, l_h65⟩ := y_frzM (a := (varM 2)) (s := [some (nV many), some (.ref l1), some (.ref p8), none, none, none, none, none]) (h := h64) (fun _ => rfl) (r_var rfl) w_h64_2
    have w_h65_1 : h65[l1]? = some (MO.lst (List.map prV links)) := (k_h65 _ n_R63_1).trans w_h64_1
    have fr_h65 : Fr h [] h65 := Fr.keep fr_h64 k_h65 (Mx.low w_h64_2) l_h65
    refine W_ret fz66 ?_
    obtain rfl := some_e e
    exact ⟨_, rfl, fr_h65⟩
  have ef : defM 2 8 m_law_closed [(nV many), .ref l1] h = ok (MV.fls (List.map e_FB r)) h9 := x_law_closed.trans (by rw [eo]; exact e9)
  have := cut_fr ef fr9 ((fun (q : (List (List Bool))) => clo_F (f := e_FB) (fun (q : (List Bool)) => clo_F (f := MV.bl) (fun _ => rfl))) r) (fun _ hl => absurd hl List.not_mem_nil)
  rwa [fr9.to0] at this
def tb1_law_drawn (half9 : Nat) (q11 : (List (Nat × Nat))) (k12 : Nat) : Option (List (Nat × Nat)) :=
  gd (0 < half9) <|
  gd (q11.length + [(k12, (half9 + k12)), (((k12 + 1) % half9), (half9 + k12))].length ≤ 400000) <|
  lett ((q11 ++ [(k12, (half9 + k12)), (((k12 + 1) % half9), (half9 + k12))]) : (List (Nat × Nat))) fun c20 =>
  some c20
def tb2_law_drawn (r4 : (Nat × ((List Int) × Nat × Nat × Nat × Nat × Nat))) (rare29 : Nat) (j33 : ((List Nat) × ((List Int) × Nat × Nat × Nat × Nat × Nat))) (x53 : Nat) (q58 : (((List Int) × Nat × Nat × Nat × Nat × Nat) × (List (Nat × Nat)))) (y59 : Nat) : Option (((List Int) × Nat × Nat × Nat × Nat × Nat) × (List (Nat × Nat))) :=
  (if (decide (r4.1 = 2)) = true then ((j33.1[x53]?).bind fun v62 => (j33.1[y59]?).bind fun v63 => (if (decide (v62 < v63)) = true then ((t_law_draw q58.1 4).bind fun r64 => some ((decide (0 < r64.1)), r64.2)) else (some (false, q58.1))).bind fun c67 => some (c67.1, c67.2)) else (some (false, q58.1))).bind fun c70 =>
  (if c70.1 = true then (gd (q58.2.length ≤ 400000) <|
  lett ((q58.2 ++ [(x53, y59)]) : (List (Nat × Nat))) fun c79 =>
  some c79) else (some q58.2) : Option (List (Nat × Nat))).bind fun j73 =>
  (if (decide (r4.1 < 2)) = true then ((t_law_draw c70.2 rare29).bind fun r80 => some ((decide (r80.1 = 0)), r80.2)) else (some (false, c70.2))).bind fun c83 =>
  if c83.1 = true then (gd (j73.length ≤ 400000) <|
  lett ((j73 ++ [(x53, y59)]) : (List (Nat × Nat))) fun c88 =>
  some (c83.2, c88)) else (some (c83.2, j73))
def tb3_law_drawn (r1 : (Nat × ((List Int) × Nat × Nat × Nat × Nat × Nat))) (r4 : (Nat × ((List Int) × Nat × Nat × Nat × Nat × Nat))) (rare29 : Nat) (j33 : ((List Nat) × ((List Int) × Nat × Nat × Nat × Nat × Nat))) (q52 : (((List Int) × Nat × Nat × Nat × Nat × Nat) × (List (Nat × Nat)))) (x53 : Nat) : Option (((List Int) × Nat × Nat × Nat × Nat × Nat) × (List (Nat × Nat))) :=
  gd ((x53 + 1) ≤ 400000) <|
  gd (r1.1 ≤ 400000) <|
  (forO (tb2_law_drawn r4 rare29 j33 x53) (rng (x53 + 1) r1.1) (q52.1, q52.2)).bind fun q89 =>
  some (q89.1, q89.2)
def t_law_drawn (tape : ((List Int) × Nat × Nat × Nat × Nat × Nat)) (most : Nat) : Option ((List (List Bool)) × ((List Int) × Nat × Nat × Nat × Nat × Nat)) :=
  (t_law_draw tape (most + 1)).bind fun r1 =>
  (t_law_draw r1.2 4).bind fun r4 =>
  if (decide (r4.1 = 3)) = true then (lett ((r1.1 / 2) : Nat) fun half9 =>
  gd (half9 ≤ 400000) <|
  (forO (tb1_law_drawn half9) (List.range half9) []).bind fun q21 =>
  (t_law_closed r1.1 q21).bind fun r24 =>
  some (r24, r4.2)) else ((t_law_draw r4.2 4).bind fun r26 =>
  lett ((2 + r26.1) : Nat) fun rare29 =>
  gd ([0].length * r1.1 ≤ 400000) <|
  gd (r1.1 ≤ 400000) <|
  lett ((List.replicate r1.1 [0]).flatten : (List Nat)) fun levels32 =>
  (if (decide (r4.1 = 2)) = true then (gd (r1.1 ≤ 400000) <|
  gd ((List.range r1.1).length ≤ 400000) <|
  (lcW (fun (q43 : ((List Int) × Nat × Nat × Nat × Nat × Nat)) (k38 : Nat) => ((t_law_draw q43 4).bind fun r45 => some (some r45.1, r45.2) : Option (Option Nat × ((List Int) × Nat × Nat × Nat × Nat × Nat)))) (List.range r1.1) r26.2).bind fun r48 =>
  some (r48.1, r48.2)) else (some (levels32, r26.2)) : Option ((List Nat) × ((List Int) × Nat × Nat × Nat × Nat × Nat))).bind fun j33 =>
  gd (r1.1 ≤ 400000) <|
  (forO (tb3_law_drawn r1 r4 rare29 j33) (List.range r1.1) (j33.2, [])).bind fun q91 =>
  (t_law_closed r1.1 q91.2).bind fun r93 =>
  some (r93, q91.1))
theorem tt_law_drawn {h : MH} {tape : ((List Int) × Nat × Nat × Nat × Nat × Nat)} {l0 : Nat} {most : Nat} {r : ((List (List Bool)) × ((List Int) × Nat × Nat × Nat × Nat × Nat))} (w0 : h[l0]? = some (c_RX6cel_at_val_dig_mix_salFINNNNN tape)) (e : t_law_drawn tape most = some r) : f_law_drawn [.ref l0, (nV most)] h = ok (MV.fls (List.map e_FB r.1)) (h.set l0 (c_RX6cel_at_val_dig_mix_salFINNNNN r.2)) := by
  unfold t_law_drawn at e
  obtain ⟨o, eo, h9, e9, fr9, w9_0⟩ : ∃ o, m_law_drawn [some (.ref l0), some ((nV most)), none, none, none, none, none, none, none, none, none] h = some o ∧ ∃ h9, defK (some o) = ok (MV.fls (List.map e_FB r.1)) h9 ∧ Fr h [l0] h9 ∧ h9[l0]? = some (c_RX6cel_at_val_dig_mix_salFINNNNN r.2) := by
    unfold m_law_drawn
    have fr0 : Fr h [l0] h := Fr.refl
    obtain ⟨r1, b_r1, e⟩ := obind e
    have c2 := tt_law_draw (h := h) w0 b_r1
    obtain ⟨h3, q_h3⟩ : ∃ x : MH, x = h.set l0 (c_RX6cel_at_val_dig_mix_salFINNNNN r1.2) := ⟨_, rfl⟩
    have w_h3_0 : h3[l0]? = some (c_RX6cel_at_val_dig_mix_salFINNNNN r1.2) := by rw [q_h3]; exact g_eq w0
    have fr_h3 : Fr h [l0] h3 := by rw [q_h3]; exact fr0.inn (by simp)
    rw [← q_h3] at c2
    refine W_seq (setS_ok (callM_ok (consA_ok (r_var rfl) (consA_ok (r_add (i := most) (j := 1) (r_var rfl) rfl) r_nil)) c2)) ?_
    obtain ⟨r4, b_r4, e⟩ := obind e
    have c5 := tt_law_draw (h := h3) w_h3_0 b_r4
    obtain ⟨h6, q_h6⟩ : ∃ x : MH, x = h3.set l0 (c_RX6cel_at_val_dig_mix_salFINNNNN r4.2) := ⟨_, rfl⟩
    have w_h6_0 : h6[l0]? = some (c_RX6cel_at_val_dig_mix_salFINNNNN r4.2) := by rw [q_h6]; exact g_eq w_h3_0
    have fr_h6 : Fr h [l0] h6 := by rw [q_h6]; exact fr_h3.inn (by simp)
    rw [← q_h6] at c5
    refine W_seq (setS_ok (callM_ok (consA_ok (r_var rfl) (consA_ok rfl r_nil)) c5)) ?_
    obtain ⟨p7, q_p7⟩ : ∃ x : Nat, x = h6.length := ⟨_, rfl⟩
    obtain ⟨h8, q_h8⟩ : ∃ x : MH, x = h6 ++ [(MO.lst (List.map prV []))] := ⟨_, rfl⟩
    have n_p7_0 : l0 ≠ p7 := by rw [q_p7]; exact Nat.ne_of_lt (g_lt w_h6_0)
    have w_h8_0 : h8[l0]? = some (c_RX6cel_at_val_dig_mix_salFINNNNN r4.2) := by rw [q_h8]; exact g_ap w_h6_0
    have w_h8_1 : h8[p7]? = some (MO.lst (List.map prV [])) := by rw [q_h8]; exact g_nw q_p7
    have lo_p7 : h.length ≤ p7 := by rw [q_p7]; exact fr_h6.1
    have fr_h8 : Fr h [l0] h8 := by rw [q_h8]; exact fr_h6.app
    refine W_seq (setS_ok (y_ref (r_lst r_nil (by show 0 ≤ 400000; omega)) q_p7 q_h8)) ?_
    rcases ite_e e with ⟨hc, e⟩ | ⟨hc, e⟩
    · refine W_st (r_tst (r_eq (i := r4.1) (j := 3) (r_var rfl) rfl)) hc ?_
      refine W_as ?_
      obtain ⟨half9, h_half9, e⟩ := lett_e e
      refine W_seq (setS_ok (ok_lt (f := nV) h_half9 (n_div (i := r1.1) (j := 2) (r_var rfl) rfl (by omega)))) ?_
      refine W_as ?_
      obtain ⟨g_10, e⟩ := gd_e e
      obtain ⟨q21, b_q21, e⟩ := obind e
      refine W_forO (e := nV) (xs := (List.range half9)) (f := (tb1_law_drawn half9)) (fun (q11 : (List (Nat × Nat))) s14 h15 => ∃ p13 : Nat, s14 = [some (.ref l0), some (nV most), some (nV r1.1), some (nV r4.1), some (.ref p13), some (nV half9), none, none, none, none, none] ∧ Fr h [l0] h15 ∧ h15[l0]? = some (c_RX6cel_at_val_dig_mix_salFINNNNN r4.2) ∧ h15[p13]? = some (MO.lst (List.map prV q11)) ∧ h.length ≤ p13 ∧ l0 ≠ p13) (q_rng (n := half9) (r_var rfl) g_10) ⟨_, rfl, fr_h8, w_h8_0, w_h8_1, lo_p7, n_p7_0⟩ b_q21 (fun q11 k12 s h15 b ra e => ?_) ?_
      · obtain ⟨p13, rfl, fr_h15, w_h15_0, w_h15_2, lo_p13, n_p13_0⟩ := ra
        unfold tb1_law_drawn at e
        refine W_turn rfl ?_
        unfold b1_law_drawn
        refine W_wip' ?_
        refine W_lst ?_
        obtain ⟨g_16, e⟩ := gd_e e
        obtain ⟨g_17, e⟩ := gd_e e
        obtain ⟨c20, h_c20, e⟩ := lett_e e
        obtain ⟨p18, q_p18⟩ : ∃ x : Nat, x = h15.length := ⟨_, rfl⟩
        obtain ⟨h19, q_h19⟩ : ∃ x : MH, x = h15 ++ [(MO.lst (List.map prV c20))] := ⟨_, rfl⟩
        have n_p18_0 : l0 ≠ p18 := by rw [q_p18]; exact Nat.ne_of_lt (g_lt w_h15_0)
        have w_h19_0 : h19[l0]? = some (c_RX6cel_at_val_dig_mix_salFINNNNN r4.2) := by rw [q_h19]; exact g_ap w_h15_0
        have n_p18_2 : p13 ≠ p18 := by rw [q_p18]; exact Nat.ne_of_lt (g_lt w_h15_2)
        have w_h19_2 : h19[p13]? = some (MO.lst (List.map prV q11)) := by rw [q_h19]; exact g_ap w_h15_2
        have w_h19_3 : h19[p18]? = some (MO.lst (List.map prV c20)) := by rw [q_h19]; exact g_nw q_p18
        have lo_p18 : h.length ≤ p18 := by rw [q_p18]; exact fr_h15.1
        have fr_h19 : Fr h [l0] h19 := by rw [q_h19]; exact fr_h15.app
        refine W_seq (setS_ok (y_ref (z_cat (f := prV) (xs := q11) (ys := [(k12, (half9 + k12)), (((k12 + 1) % half9), (half9 + k12))]) (r_var rfl) (r_fls (r_lst (consA_ok (tupM_ok (consA_ok (r_var rfl) (consA_ok (r_add (i := half9) (j := k12) (r_var rfl) (r_var rfl)) r_nil)) (by show 2 ≤ 1000; omega)) (consA_ok (tupM_ok (consA_ok (r_mod (i := (k12 + 1)) (j := half9) (i_int (r_add (i := k12) (j := 1) (r_var rfl) rfl)) (r_var rfl) g_16) (consA_ok (r_add (i := half9) (j := k12) (r_var rfl) (r_var rfl)) r_nil)) (by show 2 ≤ 1000; omega)) r_nil)) (by show 2 ≤ 400000; omega))) (wl_ref w_h15_2) rfl g_17) q_p18 (Eq.trans q_h19 (congrArg (fun z => h15 ++ [(MO.lst (List.map prV z))]) h_c20)))) ?_
        refine W_nil ?_
        obtain rfl := some_e e
        exact ⟨_, rfl, _, _, .inl rfl, ⟨_, rfl, fr_h19, w_h19_0, w_h19_3, lo_p18, n_p18_0⟩⟩
      rintro _ h23 ⟨p22, rfl, fr_h23, w_h23_0, w_h23_4, lo_p22, n_p22_0⟩
      obtain ⟨r24, b_r24, e⟩ := obind e
      have c25 := tt_law_closed (h := h23) w_h23_4 b_r24
      refine W_sret (callM_ok (consA_ok (r_var rfl) (consA_ok (r_var rfl) r_nil)) c25) ?_
      obtain rfl := some_e e
      exact ⟨_, rfl, fr_h23, w_h23_0⟩
    · refine W_sf (r_tst (r_eq (i := r4.1) (j := 3) (r_var rfl) rfl)) hc ?_
      refine W_nils ?_
      obtain ⟨r26, b_r26, e⟩ := obind e
      have c27 := tt_law_draw (h := h8) w_h8_0 b_r26
      obtain ⟨h28, q_h28⟩ : ∃ x : MH, x = h8.set l0 (c_RX6cel_at_val_dig_mix_salFINNNNN r26.2) := ⟨_, rfl⟩
      have w_h28_0 : h28[l0]? = some (c_RX6cel_at_val_dig_mix_salFINNNNN r26.2) := by rw [q_h28]; exact g_eq w_h8_0
      have w_h28_1 : h28[p7]? = some (MO.lst (List.map prV [])) := by rw [q_h28]; exact g_ne w_h8_1 n_p7_0
      have fr_h28 : Fr h [l0] h28 := by rw [q_h28]; exact fr_h8.inn (by simp)
      rw [← q_h28] at c27
      obtain ⟨rare29, h_rare29, e⟩ := lett_e e
      refine W_seq (setS_ok (ok_lt (f := nV) h_rare29 (r_add (i := 2) (j := r26.1) rfl (callM_ok (consA_ok (r_var rfl) (consA_ok rfl r_nil)) c27)))) ?_
      obtain ⟨g_30, e⟩ := gd_e e
      obtain ⟨g_31, e⟩ := gd_e e
      obtain ⟨levels32, h_levels32, e⟩ := lett_e e
      refine W_seq (setS_ok (ok_lt (f := e_FN) h_levels32 (r_fls (z_rep (f := nV) (xs := [0]) (i := r1.1) (r_fls (r_lst (consA_ok rfl r_nil) (by show 1 ≤ 400000; omega))) (r_var rfl) rfl g_30 g_31)))) ?_
      obtain ⟨j33, b_j33, e⟩ := obind e
      refine W_join (Q := fun s35 h36 => s35 = [some (.ref l0), some (nV most), some (nV r1.1), some (nV r4.1), some (.ref p7), none, none, some (nV rare29), some (MV.fls (List.map nV j33.1)), none, none] ∧ Fr h [l0] h36 ∧ h36[l0]? = some (c_RX6cel_at_val_dig_mix_salFINNNNN j33.2) ∧ h36[p7]? = some (MO.lst (List.map prV []))) ?_ ?_
      · rcases ite_e b_j33 with ⟨hc, e⟩ | ⟨hc, e⟩
        · refine W_t (r_tst (r_eq (i := r4.1) (j := 2) (r_var rfl) rfl)) hc ?_
          refine W_lst ?_
          obtain ⟨g_37, e⟩ := gd_e e
          obtain ⟨g_42, e⟩ := gd_e e
          obtain ⟨r48, b_r48, e⟩ := obind e
          obtain ⟨h49, z50, fr_h49, w_h49_0, w_h49_1⟩ : ∃ h49, (lcM (rng1 (consA (varM 2) nilA)) [6] (one 6) yesT (callM f_law_draw [] (consA (varM 0) (consA (cM (.int 4)) nilA)))) [some (.ref l0), some (nV most), some (nV r1.1), some (nV r4.1), some (.ref p7), none, none, some (nV rare29), some (MV.fls (List.map nV levels32)), none, none] h28 = ok (List.map nV r48.1) h49 ∧ Fr h [l0] h49 ∧ h49[l0]? = some (c_RX6cel_at_val_dig_mix_salFINNNNN r48.2) ∧ h49[p7]? = some (MO.lst (List.map prV [])) := by
            refine z_lcW (f := nV) (g := nV) (xs := (List.range r1.1)) (fun (q43 : ((List Int) × Nat × Nat × Nat × Nat × Nat)) (h44 : MH) => Fr h [l0] h44 ∧ h44[l0]? = some (c_RX6cel_at_val_dig_mix_salFINNNNN q43) ∧ h44[p7]? = some (MO.lst (List.map prV []))) (q_rng (n := r1.1) (r_var rfl) g_37) g_42 (fun _ => rfl) (fun q43 k38 h44 o ra e => ?_) ⟨fr_h28, w_h28_0, w_h28_1⟩ b_r48
            obtain ⟨fr_h44, w_h44_0, w_h44_1⟩ := ra
            obtain ⟨r45, b_r45, e⟩ := obind e
            have c46 := tt_law_draw (h := h44) w_h44_0 b_r45
            obtain ⟨h47, q_h47⟩ : ∃ x : MH, x = h44.set l0 (c_RX6cel_at_val_dig_mix_salFINNNNN r45.2) := ⟨_, rfl⟩
            have w_h47_0 : h47[l0]? = some (c_RX6cel_at_val_dig_mix_salFINNNNN r45.2) := by rw [q_h47]; exact g_eq w_h44_0
            have w_h47_1 : h47[p7]? = some (MO.lst (List.map prV [])) := by rw [q_h47]; exact g_ne w_h44_1 n_p7_0
            have fr_h47 : Fr h [l0] h47 := by rw [q_h47]; exact fr_h44.inn (by simp)
            rw [← q_h47] at c46
            obtain rfl := some_e e
            exact ⟨_, _, ⟨_, rfl, rfl, (callM_ok (consA_ok (r_var rfl) (consA_ok rfl r_nil)) c46)⟩, ⟨fr_h47, w_h47_0, w_h47_1⟩⟩
          refine W_seq (setS_ok (r_fls z50)) ?_
          refine W_nil ?_
          obtain rfl := some_e e
          exact ⟨_, _, rfl, rfl, fr_h49, w_h49_0, w_h49_1⟩
        · refine W_f (r_tst (r_eq (i := r4.1) (j := 2) (r_var rfl) rfl)) hc ?_
          refine W_nil ?_
          obtain rfl := some_e e
          exact ⟨_, _, rfl, rfl, fr_h28, w_h28_0, w_h28_1⟩
      rintro _ h34 ⟨rfl, fr_h34, w_h34_0, w_h34_1⟩
      obtain ⟨g_51, e⟩ := gd_e e
      obtain ⟨q91, b_q91, e⟩ := obind e
      refine W_forO (e := nV) (xs := (List.range r1.1)) (f := (tb3_law_drawn r1 r4 rare29 j33)) (fun (q52 : (((List Int) × Nat × Nat × Nat × Nat × Nat) × (List (Nat × Nat)))) s54 h55 => s54 = [some (.ref l0), some (nV most), some (nV r1.1), some (nV r4.1), some (.ref p7), none, none, some (nV rare29), some (MV.fls (List.map nV j33.1)), none, none] ∧ Fr h [l0] h55 ∧ h55[l0]? = some (c_RX6cel_at_val_dig_mix_salFINNNNN q52.1) ∧ h55[p7]? = some (MO.lst (List.map prV q52.2))) (q_rng (n := r1.1) (r_var rfl) g_51) ⟨rfl, fr_h34, w_h34_0, w_h34_1⟩ b_q91 (fun q52 x53 s h55 b ra e => ?_) ?_
      · obtain ⟨rfl, fr_h55, w_h55_0, w_h55_1⟩ := ra
        unfold tb3_law_drawn at e
        refine W_turn rfl ?_
        unfold b3_law_drawn
        refine W_wip' ?_
        refine W_lst ?_
        obtain ⟨g_56, e⟩ := gd_e e
        obtain ⟨g_57, e⟩ := gd_e e
        obtain ⟨q89, b_q89, e⟩ := obind e
        refine W_forO (e := nV) (xs := (rng (x53 + 1) r1.1)) (f := (tb2_law_drawn r4 rare29 j33 x53)) (fun (q58 : (((List Int) × Nat × Nat × Nat × Nat × Nat) × (List (Nat × Nat)))) s60 h61 => s60 = [some (.ref l0), some (nV most), some (nV r1.1), some (nV r4.1), some (.ref p7), none, none, some (nV rare29), some (MV.fls (List.map nV j33.1)), some (nV x53), none] ∧ Fr h [l0] h61 ∧ h61[l0]? = some (c_RX6cel_at_val_dig_mix_salFINNNNN q58.1) ∧ h61[p7]? = some (MO.lst (List.map prV q58.2))) (q_rng2 (i := (x53 + 1)) (j := r1.1) (r_add (i := x53) (j := 1) (r_var rfl) rfl) (r_var rfl) g_56 g_57) ⟨rfl, fr_h55, w_h55_0, w_h55_1⟩ b_q89 (fun q58 y59 s h61 b ra e => ?_) ?_
        · obtain ⟨rfl, fr_h61, w_h61_0, w_h61_1⟩ := ra
          unfold tb2_law_drawn at e
          refine W_turn rfl ?_
          unfold b2_law_drawn
          refine W_wip' ?_
          obtain ⟨c70, b_c70, e⟩ := obind e
          obtain ⟨h71, a72, fr_h71, w_h71_0, w_h71_1⟩ : ∃ h71, (andT (tstM (opM eqF (varM 3) (cM (.int 2)))) (andT (tstM (opM ltF (opM ixF (varM 8) (varM 9)) (opM ixF (varM 8) (varM 10)))) (tstM (opM gtF (callM f_law_draw [] (consA (varM 0) (consA (cM (.int 4)) nilA))) (cM (.int 0)))))) [some (.ref l0), some (nV most), some (nV r1.1), some (nV r4.1), some (.ref p7), none, none, some (nV rare29), some (MV.fls (List.map nV j33.1)), some (nV x53), some (nV y59)] h61 = ok c70.1 h71 ∧ Fr h [l0] h71 ∧ h71[l0]? = some (c_RX6cel_at_val_dig_mix_salFINNNNN c70.2) ∧ h71[p7]? = some (MO.lst (List.map prV q58.2)) := by
            rcases ite_e b_c70 with ⟨hc, e⟩ | ⟨hc, e⟩
            · skip
              obtain ⟨v62, b_v62, e⟩ := obind e
              obtain ⟨v63, b_v63, e⟩ := obind e
              obtain ⟨c67, b_c67, e⟩ := obind e
              obtain ⟨h68, a69, fr_h68, w_h68_0, w_h68_1⟩ : ∃ h68, (andT (tstM (opM ltF (opM ixF (varM 8) (varM 9)) (opM ixF (varM 8) (varM 10)))) (tstM (opM gtF (callM f_law_draw [] (consA (varM 0) (consA (cM (.int 4)) nilA))) (cM (.int 0))))) [some (.ref l0), some (nV most), some (nV r1.1), some (nV r4.1), some (.ref p7), none, none, some (nV rare29), some (MV.fls (List.map nV j33.1)), some (nV x53), some (nV y59)] h61 = ok c67.1 h68 ∧ Fr h [l0] h68 ∧ h68[l0]? = some (c_RX6cel_at_val_dig_mix_salFINNNNN c67.2) ∧ h68[p7]? = some (MO.lst (List.map prV q58.2)) := by
                rcases ite_e b_c67 with ⟨hc, e⟩ | ⟨hc, e⟩
                · skip
                  obtain ⟨r64, b_r64, e⟩ := obind e
                  have c65 := tt_law_draw (h := h61) w_h61_0 b_r64
                  obtain ⟨h66, q_h66⟩ : ∃ x : MH, x = h61.set l0 (c_RX6cel_at_val_dig_mix_salFINNNNN r64.2) := ⟨_, rfl⟩
                  have w_h66_0 : h66[l0]? = some (c_RX6cel_at_val_dig_mix_salFINNNNN r64.2) := by rw [q_h66]; exact g_eq w_h61_0
                  have w_h66_1 : h66[p7]? = some (MO.lst (List.map prV q58.2)) := by rw [q_h66]; exact g_ne w_h61_1 n_p7_0
                  have fr_h66 : Fr h [l0] h66 := by rw [q_h66]; exact fr_h61.inn (by simp)
                  rw [← q_h66] at c65
                  obtain rfl := some_e e
                  exact ⟨_, y_andTt (r_tst (r_lt (i := v62) (j := v63) (y_ix (f := nV) (xs := j33.1) (i := x53) (r_var rfl) (r_var rfl) rfl b_v62) (y_ix (f := nV) (xs := j33.1) (i := y59) (r_var rfl) (r_var rfl) rfl b_v63))) hc (r_tst (r_gt (i := r64.1) (j := 0) (callM_ok (consA_ok (r_var rfl) (consA_ok rfl r_nil)) c65) rfl)), fr_h66, w_h66_0, w_h66_1⟩
                · skip
                  obtain rfl := some_e e
                  exact ⟨_, y_andTf (r_tst (r_lt (i := v62) (j := v63) (y_ix (f := nV) (xs := j33.1) (i := x53) (r_var rfl) (r_var rfl) rfl b_v62) (y_ix (f := nV) (xs := j33.1) (i := y59) (r_var rfl) (r_var rfl) rfl b_v63))) hc, fr_h61, w_h61_0, w_h61_1⟩
              obtain rfl := some_e e
              exact ⟨_, y_andTt (r_tst (r_eq (i := r4.1) (j := 2) (r_var rfl) rfl)) hc a69, fr_h68, w_h68_0, w_h68_1⟩
            · skip
              obtain rfl := some_e e
              exact ⟨_, y_andTf (r_tst (r_eq (i := r4.1) (j := 2) (r_var rfl) rfl)) hc, fr_h61, w_h61_0, w_h61_1⟩
          obtain ⟨j73, b_j73, e⟩ := obind e
          refine W_join (Q := fun s75 h76 => s75 = [some (.ref l0), some (nV most), some (nV r1.1), some (nV r4.1), some (.ref p7), none, none, some (nV rare29), some (MV.fls (List.map nV j33.1)), some (nV x53), some (nV y59)] ∧ Fr h [l0] h76 ∧ h76[l0]? = some (c_RX6cel_at_val_dig_mix_salFINNNNN c70.2) ∧ h76[p7]? = some (MO.lst (List.map prV j73))) ?_ ?_
          · rcases ite_e b_j73 with ⟨hc, e⟩ | ⟨hc, e⟩
            · refine W_t a72 hc ?_
              refine W_lst ?_
              obtain ⟨g_77, e⟩ := gd_e e
              obtain ⟨c79, h_c79, e⟩ := lett_e e
              obtain ⟨h78, q_h78⟩ : ∃ x : MH, x = h71.set p7 (MO.lst (List.map prV c79)) := ⟨_, rfl⟩
              have w_h78_0 : h78[l0]? = some (c_RX6cel_at_val_dig_mix_salFINNNNN c70.2) := by rw [q_h78]; exact g_ne w_h71_0 (Ne.symm n_p7_0)
              have w_h78_1 : h78[p7]? = some (MO.lst (List.map prV c79)) := by rw [q_h78]; exact g_eq w_h71_1
              have fr_h78 : Fr h [l0] h78 := by rw [q_h78]; exact fr_h71.out lo_p7
              refine W_seq (t_drop (y_push (f := prV) (xs := q58.2) (x := (x53, y59)) (r_var rfl) (consA_ok (tupM_ok (consA_ok (r_var rfl) (consA_ok (r_var rfl) r_nil)) (by show 2 ≤ 1000; omega)) r_nil) w_h71_1 w_h71_1 g_77 (Eq.trans q_h78 (congrArg (fun z => List.set h71 p7 (MO.lst (List.map prV z))) h_c79)))) ?_
              refine W_nil ?_
              obtain rfl := some_e e
              exact ⟨_, _, rfl, rfl, fr_h78, w_h78_0, w_h78_1⟩
            · refine W_f a72 hc ?_
              refine W_nil ?_
              obtain rfl := some_e e
              exact ⟨_, _, rfl, rfl, fr_h71, w_h71_0, w_h71_1⟩
          rintro _ h74 ⟨rfl, fr_h74, w_h74_0, w_h74_1⟩
          obtain ⟨c83, b_c83, e⟩ := obind e
          obtain ⟨h84, a85, fr_h84, w_h84_0, w_h84_1⟩ : ∃ h84, (andT (tstM (opM ltF (varM 3) (cM (.int 2)))) (tstM (opM eqF (callM f_law_draw [] (consA (varM 0) (consA (varM 7) nilA))) (cM (.int 0))))) [some (.ref l0), some (nV most), some (nV r1.1), some (nV r4.1), some (.ref p7), none, none, some (nV rare29), some (MV.fls (List.map nV j33.1)), some (nV x53), some (nV y59)] h74 = ok c83.1 h84 ∧ Fr h [l0] h84 ∧ h84[l0]? = some (c_RX6cel_at_val_dig_mix_salFINNNNN c83.2) ∧ h84[p7]? = some (MO.lst (List.map prV j73)) := by
            rcases ite_e b_c83 with ⟨hc, e⟩ | ⟨hc, e⟩
            · skip
              obtain ⟨r80, b_r80, e⟩ := obind e
              have c81 := tt_law_draw (h := h74) w_h74_0 b_r80
              obtain ⟨h82, q_h82⟩ : ∃ x : MH, x = h74.set l0 (c_RX6cel_at_val_dig_mix_salFINNNNN r80.2) := ⟨_, rfl⟩
              have w_h82_0 : h82[l0]? = some (c_RX6cel_at_val_dig_mix_salFINNNNN r80.2) := by rw [q_h82]; exact g_eq w_h74_0
              have w_h82_1 : h82[p7]? = some (MO.lst (List.map prV j73)) := by rw [q_h82]; exact g_ne w_h74_1 n_p7_0
              have fr_h82 : Fr h [l0] h82 := by rw [q_h82]; exact fr_h74.inn (by simp)
              rw [← q_h82] at c81
              obtain rfl := some_e e
              exact ⟨_, y_andTt (r_tst (r_lt (i := r4.1) (j := 2) (r_var rfl) rfl)) hc (r_tst (r_eq (i := r80.1) (j := 0) (callM_ok (consA_ok (r_var rfl) (consA_ok (r_var rfl) r_nil)) c81) rfl)), fr_h82, w_h82_0, w_h82_1⟩
            · skip
              obtain rfl := some_e e
              exact ⟨_, y_andTf (r_tst (r_lt (i := r4.1) (j := 2) (r_var rfl) rfl)) hc, fr_h74, w_h74_0, w_h74_1⟩
          rcases ite_e e with ⟨hc, e⟩ | ⟨hc, e⟩
          · refine W_t a85 hc ?_
            refine W_lst ?_
            obtain ⟨g_86, e⟩ := gd_e e
            obtain ⟨c88, h_c88, e⟩ := lett_e e
            obtain ⟨h87, q_h87⟩ : ∃ x : MH, x = h84.set p7 (MO.lst (List.map prV c88)) := ⟨_, rfl⟩
            have w_h87_0 : h87[l0]? = some (c_RX6cel_at_val_dig_mix_salFINNNNN c83.2) := by rw [q_h87]; exact g_ne w_h84_0 (Ne.symm n_p7_0)
            have w_h87_1 : h87[p7]? = some (MO.lst (List.map prV c88)) := by rw [q_h87]; exact g_eq w_h84_1
            have fr_h87 : Fr h [l0] h87 := by rw [q_h87]; exact fr_h84.out lo_p7
            refine W_seq (t_drop (y_push (f := prV) (xs := j73) (x := (x53, y59)) (r_var rfl) (consA_ok (tupM_ok (consA_ok (r_var rfl) (consA_ok (r_var rfl) r_nil)) (by show 2 ≤ 1000; omega)) r_nil) w_h84_1 w_h84_1 g_86 (Eq.trans q_h87 (congrArg (fun z => List.set h84 p7 (MO.lst (List.map prV z))) h_c88)))) ?_
            refine W_nil ?_
            obtain rfl := some_e e
            exact ⟨_, rfl, _, _, .inl rfl, ⟨rfl, fr_h87, w_h87_0, w_h87_1⟩⟩
          · refine W_f a85 hc ?_
            refine W_nil ?_
            obtain rfl := some_e e
            exact ⟨_, rfl, _, _, .inl rfl, ⟨rfl, fr_h84, w_h84_0, w_h84_1⟩⟩
        rintro _ h90 ⟨rfl, fr_h90, w_h90_0, w_h90_1⟩
        refine W_nil ?_
        obtain rfl := some_e e
        exact ⟨_, rfl, _, _, .inl rfl, ⟨rfl, fr_h90, w_h90_0, w_h90_1⟩⟩
      rintro _ h92 ⟨rfl, fr_h92, w_h92_0, w_h92_1⟩
      obtain ⟨r93, b_r93, e⟩ := obind e
      have c94 := tt_law_closed (h := h92) w_h92_1 b_r93
      refine W_ret (callM_ok (consA_ok (r_var rfl) (consA_ok (r_var rfl) r_nil)) c94) ?_
      obtain rfl := some_e e
      exact ⟨_, rfl, fr_h92, w_h92_0⟩
  have ef : defM 2 11 m_law_drawn [.ref l0, (nV most)] h = ok (MV.fls (List.map e_FB r.1)) h9 := x_law_drawn.trans (by rw [eo]; exact e9)
  have := cut_fr ef fr9 ((fun (q : (List (List Bool))) => clo_F (f := e_FB) (fun (q : (List Bool)) => clo_F (f := MV.bl) (fun _ => rfl))) r.1) (fun l hl => by rw [List.mem_singleton.mp hl]; exact ⟨_, w9_0, (and_i ((fun (q : (List Int)) => clo_F (f := MV.int) (fun _ => rfl)) r.2.1) (and_i ((fun _ => rfl) r.2.2.1) (and_i ((fun _ => rfl) r.2.2.2.1) (and_i ((fun _ => rfl) r.2.2.2.2.1) (and_i ((fun _ => rfl) r.2.2.2.2.2.1) (and_i ((fun _ => rfl) r.2.2.2.2.2.2) (rfl)))))))⟩)
  rwa [fr9.to1 w9_0] at this
def tb1_law_told (up : (List (List Bool))) (names : (List Nat)) (q2 : (List (Nat × Nat))) (x3 : Nat) : Option (List (Nat × Nat)) :=
  gd (up.length ≤ 400000) <|
  gd ((List.range up.length).length ≤ 400000) <|
  (lcO (fun y7 : Nat => (up[x3]?).bind fun v8 => (v8[y7]?).bind fun v9 => some v9) (fun y7 : Nat => ((names[x3]?).bind fun v10 => (names[y7]?).bind fun v11 => some (v10, v11) : Option (Nat × Nat))) (List.range up.length)).bind fun r13 =>
  gd (q2.length + r13.length ≤ 400000) <|
  lett ((q2 ++ r13) : (List (Nat × Nat))) fun pairs16 =>
  some pairs16
def t_law_told (up : (List (List Bool))) (names : (List Nat)) : Option (Nat × (List (Nat × Nat))) :=
  gd (up.length ≤ 400000) <|
  (forO (tb1_law_told up names) (List.range up.length) []).bind fun q17 =>
  some (up.length, (srtPP q17))
theorem tt_law_told {h : MH} {up : (List (List Bool))} {names : (List Nat)} {r : (Nat × (List (Nat × Nat)))}  (e : t_law_told up names = some r) : f_law_told [(MV.fls (List.map e_FB up)), (MV.fls (List.map nV names))] h = ok (MV.tup [(nV r.1), (MV.tup (List.map prV r.2))]) h := by
  unfold t_law_told at e
  refine x_law_told.trans (fn_go ?_)
  unfold m_law_told
  refine W_seq (setS_ok (r_fls (r_lst r_nil (by show 0 ≤ 400000; omega)))) ?_
  obtain ⟨g_1, e⟩ := gd_e e
  obtain ⟨q17, b_q17, e⟩ := obind e
  refine W_forO (e := nV) (xs := (List.range up.length)) (f := (tb1_law_told up names)) (fun (q2 : (List (Nat × Nat))) s4 h5 => s4 = [some (MV.fls (List.map e_FB up)), some (MV.fls (List.map nV names)), some (MV.fls (List.map prV q2)), none, none] ∧ h = h5) (q_rng (n := up.length) (y_len (f := e_FB) (xs := up) (r_var rfl) rfl) g_1) ⟨rfl, rfl⟩ b_q17 (fun q2 x3 s h5 b ra e => ?_) ?_
  · obtain ⟨rfl, rfl⟩ := ra
    unfold tb1_law_told at e
    refine W_turn rfl ?_
    unfold b1_law_told
    refine W_wip' ?_
    refine W_lst ?_
    obtain ⟨g_6, e⟩ := gd_e e
    obtain ⟨g_12, e⟩ := gd_e e
    obtain ⟨r13, b_r13, e⟩ := obind e
    have z14 : (lcM (rng1 (consA (bltM lenF (consA (varM 0) nilA)) nilA)) [4] (one 4) (truM (opM ixF (opM ixF (varM 0) (varM 3)) (varM 4))) (tupM (consA (opM ixF (varM 1) (varM 3)) (consA (opM ixF (varM 1) (varM 4)) nilA)))) [some (MV.fls (List.map e_FB up)), some (MV.fls (List.map nV names)), some (MV.fls (List.map prV q2)), some (nV x3), none] h = ok (List.map prV r13) h := z_lcO (f := nV) (g := prV) (xs := (List.range up.length)) (q_rng (n := up.length) (y_len (f := e_FB) (xs := up) (r_var rfl) rfl) g_6) g_12 (fun _ => rfl)
        (fun y7 b e => by
          obtain ⟨v8, b_v8, e⟩ := obind e
          obtain ⟨v9, b_v9, e⟩ := obind e
          obtain rfl := some_e e
          exact (r_tru (y_ix (f := MV.bl) (xs := v8) (i := y7) (y_ix (f := e_FB) (xs := up) (i := x3) (r_var rfl) (r_var rfl) rfl b_v8) (r_var rfl) rfl b_v9)))
        (fun y7 y e => by
          obtain ⟨v10, b_v10, e⟩ := obind e
          obtain ⟨v11, b_v11, e⟩ := obind e
          obtain rfl := some_e e
          exact (tupM_ok (consA_ok (y_ix (f := nV) (xs := names) (i := x3) (r_var rfl) (r_var rfl) rfl b_v10) (consA_ok (y_ix (f := nV) (xs := names) (i := y7) (r_var rfl) (r_var rfl) rfl b_v11) r_nil)) (by show 2 ≤ 1000; omega))) b_r13
    obtain ⟨g_15, e⟩ := gd_e e
    obtain ⟨pairs16, h_pairs16, e⟩ := lett_e e
    refine W_seq (setS_ok (ok_lt (f := e_FP2NN) h_pairs16 (r_fls (z_cat (f := prV) (xs := q2) (ys := r13) (r_var rfl) (r_fls z14) rfl rfl g_15)))) ?_
    refine W_nil ?_
    obtain rfl := some_e e
    exact ⟨_, rfl, _, _, .inl rfl, ⟨rfl, rfl⟩⟩
  rintro _ _ ⟨rfl, rfl⟩
  refine W_ret (tupM_ok (consA_ok (y_len (f := e_FB) (xs := up) (r_var rfl) rfl) (consA_ok (r_tupf (r_fls (z_srtPP (xs := q17) (r_var rfl) rfl))) r_nil)) (by show 2 ≤ 1000; omega)) ?_
  obtain rfl := some_e e
  exact rfl
def tb1_law_fits (up : (List (List Bool))) (row : (List Nat)) (x : Nat) (value : Nat) (q2 : Unit) (y3 : Nat) : Option (Lp Unit Bool) :=
  (up[y3]?).bind fun v6 =>
  (v6[x]?).bind fun v7 =>
  (if v7 = true then ((row[y3]?).bind fun v8 => (if (!decide (v8 = value)) = true then ((row[y3]?).bind fun v9 => (up[v9]?).bind fun v10 => (v10[value]?).bind fun v11 => some (!v11)) else (some false)).bind fun c12 => some c12) else (some false)).bind fun c14 =>
  if c14 = true then (some (.rt false)) else ((up[x]?).bind fun v16 =>
  (v16[y3]?).bind fun v17 =>
  (if v17 = true then ((row[y3]?).bind fun v18 => (if (!decide (v18 = value)) = true then ((up[value]?).bind fun v19 => (row[y3]?).bind fun v20 => (v19[v20]?).bind fun v21 => some (!v21)) else (some false)).bind fun c22 => some c22) else (some false)).bind fun c24 =>
  if c24 = true then (some (.rt false)) else (some (.nx ())))
def t_law_fits (up : (List (List Bool))) (row : (List Nat)) (x : Nat) (value : Nat) : Option Bool :=
  gd (up.length ≤ 400000) <|
  lpB (forR (tb1_law_fits up row x value) (List.range up.length) ()) (fun q26 =>
  some true) (fun (r27 : Bool) => some r27)
theorem tt_law_fits {h : MH} {up : (List (List Bool))} {row : (List Nat)} {l1 : Nat} {x : Nat} {value : Nat} {r : Bool} (w1 : h[l1]? = some (MO.lst (List.map nV row))) (e : t_law_fits up row x value = some r) : f_law_fits [(MV.fls (List.map e_FB up)), .ref l1, (nV x), (nV value)] h = ok (MV.bl r) h := by
  unfold t_law_fits at e
  refine x_law_fits.trans (fn_go ?_)
  unfold m_law_fits
  obtain ⟨g_1, e⟩ := gd_e e
  refine W_joinB e (fun (q2 : Unit) s4 h5 => s4 = [some (MV.fls (List.map e_FB up)), some (.ref l1), some (nV x), some (nV value), none] ∧ h = h5) (fun (r : Bool) v h9 => v = (MV.bl r) ∧ h = h9) (fun o e => W_jfor (e := nV) (xs := (List.range up.length)) (f := (tb1_law_fits up row x value)) (fun (q2 : Unit) s4 h5 => s4 = [some (MV.fls (List.map e_FB up)), some (.ref l1), some (nV x), some (nV value), none] ∧ h = h5) (fun (r : Bool) v h9 => v = (MV.bl r) ∧ h = h9) (q_rng (n := up.length) (y_len (f := e_FB) (xs := up) (r_var rfl) rfl) g_1) ⟨rfl, rfl⟩ e (fun q2 y3 s h5 o ra e => ?_)) ?_ ?_
  · obtain ⟨rfl, rfl⟩ := ra
    unfold tb1_law_fits at e
    refine W_turn rfl ?_
    unfold b1_law_fits
    refine W_wip' ?_
    obtain ⟨v6, b_v6, e⟩ := obind e
    obtain ⟨v7, b_v7, e⟩ := obind e
    obtain ⟨c14, b_c14, e⟩ := obind e
    have a15 : (andT (truM (opM ixF (opM ixF (varM 0) (varM 4)) (varM 2))) (andT (tstM (opM neF (opM ixF (varM 1) (varM 4)) (varM 3))) (notT (truM (opM ixF (opM ixF (varM 0) (opM ixF (varM 1) (varM 4))) (varM 3)))))) [some (MV.fls (List.map e_FB up)), some (.ref l1), some (nV x), some (nV value), some (nV y3)] h = ok c14 h := by
      rcases ite_e b_c14 with ⟨hc, e⟩ | ⟨hc, e⟩
      · skip
        obtain ⟨v8, b_v8, e⟩ := obind e
        obtain ⟨c12, b_c12, e⟩ := obind e
        have a13 : (andT (tstM (opM neF (opM ixF (varM 1) (varM 4)) (varM 3))) (notT (truM (opM ixF (opM ixF (varM 0) (opM ixF (varM 1) (varM 4))) (varM 3))))) [some (MV.fls (List.map e_FB up)), some (.ref l1), some (nV x), some (nV value), some (nV y3)] h = ok c12 h := by
          rcases ite_e b_c12 with ⟨hc, e⟩ | ⟨hc, e⟩
          · skip
            obtain ⟨v9, b_v9, e⟩ := obind e
            obtain ⟨v10, b_v10, e⟩ := obind e
            obtain ⟨v11, b_v11, e⟩ := obind e
            obtain rfl := some_e e
            exact y_andTt (r_tst (r_ne (i := v8) (j := value) (y_ix (f := nV) (xs := row) (i := y3) (r_var rfl) (r_var rfl) (sq_ref w1) b_v8) (r_var rfl))) hc (r_not (r_tru (y_ix (f := MV.bl) (xs := v10) (i := value) (y_ix (f := e_FB) (xs := up) (i := v9) (r_var rfl) (y_ix (f := nV) (xs := row) (i := y3) (r_var rfl) (r_var rfl) (sq_ref w1) b_v9) rfl b_v10) (r_var rfl) rfl b_v11)))
          · skip
            obtain rfl := some_e e
            exact y_andTf (r_tst (r_ne (i := v8) (j := value) (y_ix (f := nV) (xs := row) (i := y3) (r_var rfl) (r_var rfl) (sq_ref w1) b_v8) (r_var rfl))) hc
        obtain rfl := some_e e
        exact y_andTt (r_tru (y_ix (f := MV.bl) (xs := v6) (i := x) (y_ix (f := e_FB) (xs := up) (i := y3) (r_var rfl) (r_var rfl) rfl b_v6) (r_var rfl) rfl b_v7)) hc a13
      · skip
        obtain rfl := some_e e
        exact y_andTf (r_tru (y_ix (f := MV.bl) (xs := v6) (i := x) (y_ix (f := e_FB) (xs := up) (i := y3) (r_var rfl) (r_var rfl) rfl b_v6) (r_var rfl) rfl b_v7)) hc
    rcases ite_e e with ⟨hc, e⟩ | ⟨hc, e⟩
    · refine W_st a15 hc ?_
      refine W_sret rfl ?_
      obtain rfl := some_e e
      exact ⟨_, rfl, _, _, rfl, ⟨rfl, rfl⟩⟩
    · refine W_sf a15 hc ?_
      refine W_nils ?_
      obtain ⟨v16, b_v16, e⟩ := obind e
      obtain ⟨v17, b_v17, e⟩ := obind e
      obtain ⟨c24, b_c24, e⟩ := obind e
      have a25 : (andT (truM (opM ixF (opM ixF (varM 0) (varM 2)) (varM 4))) (andT (tstM (opM neF (opM ixF (varM 1) (varM 4)) (varM 3))) (notT (truM (opM ixF (opM ixF (varM 0) (varM 3)) (opM ixF (varM 1) (varM 4))))))) [some (MV.fls (List.map e_FB up)), some (.ref l1), some (nV x), some (nV value), some (nV y3)] h = ok c24 h := by
        rcases ite_e b_c24 with ⟨hc, e⟩ | ⟨hc, e⟩
        · skip
          obtain ⟨v18, b_v18, e⟩ := obind e
          obtain ⟨c22, b_c22, e⟩ := obind e
          have a23 : (andT (tstM (opM neF (opM ixF (varM 1) (varM 4)) (varM 3))) (notT (truM (opM ixF (opM ixF (varM 0) (varM 3)) (opM ixF (varM 1) (varM 4)))))) [some (MV.fls (List.map e_FB up)), some (.ref l1), some (nV x), some (nV value), some (nV y3)] h = ok c22 h := by
            rcases ite_e b_c22 with ⟨hc, e⟩ | ⟨hc, e⟩
            · skip
              obtain ⟨v19, b_v19, e⟩ := obind e
              obtain ⟨v20, b_v20, e⟩ := obind e
              obtain ⟨v21, b_v21, e⟩ := obind e
              obtain rfl := some_e e
              exact y_andTt (r_tst (r_ne (i := v18) (j := value) (y_ix (f := nV) (xs := row) (i := y3) (r_var rfl) (r_var rfl) (sq_ref w1) b_v18) (r_var rfl))) hc (r_not (r_tru (y_ix (f := MV.bl) (xs := v19) (i := v20) (y_ix (f := e_FB) (xs := up) (i := value) (r_var rfl) (r_var rfl) rfl b_v19) (y_ix (f := nV) (xs := row) (i := y3) (r_var rfl) (r_var rfl) (sq_ref w1) b_v20) rfl b_v21)))
            · skip
              obtain rfl := some_e e
              exact y_andTf (r_tst (r_ne (i := v18) (j := value) (y_ix (f := nV) (xs := row) (i := y3) (r_var rfl) (r_var rfl) (sq_ref w1) b_v18) (r_var rfl))) hc
          obtain rfl := some_e e
          exact y_andTt (r_tru (y_ix (f := MV.bl) (xs := v16) (i := y3) (y_ix (f := e_FB) (xs := up) (i := x) (r_var rfl) (r_var rfl) rfl b_v16) (r_var rfl) rfl b_v17)) hc a23
        · skip
          obtain rfl := some_e e
          exact y_andTf (r_tru (y_ix (f := MV.bl) (xs := v16) (i := y3) (y_ix (f := e_FB) (xs := up) (i := x) (r_var rfl) (r_var rfl) rfl b_v16) (r_var rfl) rfl b_v17)) hc
      rcases ite_e e with ⟨hc, e⟩ | ⟨hc, e⟩
      · refine W_t a25 hc ?_
        refine W_ret rfl ?_
        obtain rfl := some_e e
        exact ⟨_, rfl, _, _, rfl, ⟨rfl, rfl⟩⟩
      · refine W_f a25 hc ?_
        refine W_nil ?_
        obtain rfl := some_e e
        exact ⟨_, rfl, _, _, .inl rfl, ⟨rfl, rfl⟩⟩
  · rintro q26 _ _ e ⟨rfl, rfl⟩
    refine W_ret rfl ?_
    obtain rfl := some_e e
    exact rfl
  · intro r27 v2 h2 e
    rintro ⟨rfl, rfl⟩
    obtain rfl := some_e e
    exact rfl
def tb1_law_map (up : (List (List Bool))) (q28 : (((List Int) × Nat × Nat × Nat × Nat × Nat) × (List Nat))) (k29 : Nat) : Option (((List Int) × Nat × Nat × Nat × Nat × Nat) × (List Nat)) :=
  (t_law_draw q28.1 up.length).bind fun r32 =>
  (t_law_draw r32.2 up.length).bind fun r35 =>
  (t_law_fits up q28.2 r32.1 r35.1).bind fun r38 =>
  if r38 = true then (gd (r32.1 < q28.2.length) <|
  lett ((q28.2.set r32.1 r35.1) : (List Nat)) fun c42 =>
  some (r35.2, c42)) else (some (r35.2, q28.2))
def t_law_map (tape : ((List Int) × Nat × Nat × Nat × Nat × Nat)) (up : (List (List Bool))) : Option ((List Nat) × ((List Int) × Nat × Nat × Nat × Nat × Nat)) :=
  gd (up.length ≤ 400000) <|
  lett ((List.range up.length) : (List Nat)) fun c4 =>
  (if (decide (0 < up.length)) = true then ((t_law_draw tape 3).bind fun r5 => some ((decide (r5.1 = 0)), r5.2)) else (some (false, tape))).bind fun c8 =>
  (if c8.1 = true then ((t_law_draw c8.2 up.length).bind fun r16 =>
  gd ([r16.1].length * up.length ≤ 400000) <|
  gd (up.length ≤ 400000) <|
  lett ((List.replicate up.length [r16.1]).flatten : (List Nat)) fun c23 =>
  some (c23, r16.2)) else (some (c4, c8.2)) : Option ((List Nat) × ((List Int) × Nat × Nat × Nat × Nat × Nat))).bind fun j11 =>
  (t_law_draw j11.2 ((4 * up.length) + 1)).bind fun r24 =>
  gd (r24.1 ≤ 400000) <|
  (forO (tb1_law_map up) (List.range r24.1) (r24.2, j11.1)).bind fun q43 =>
  some (q43.2, q43.1)
theorem tt_law_map {h : MH} {tape : ((List Int) × Nat × Nat × Nat × Nat × Nat)} {l0 : Nat} {up : (List (List Bool))} {r : ((List Nat) × ((List Int) × Nat × Nat × Nat × Nat × Nat))} (w0 : h[l0]? = some (c_RX6cel_at_val_dig_mix_salFINNNNN tape)) (e : t_law_map tape up = some r) : f_law_map [.ref l0, (MV.fls (List.map e_FB up))] h = ok (MV.fls (List.map nV r.1)) (h.set l0 (c_RX6cel_at_val_dig_mix_salFINNNNN r.2)) := by
  unfold t_law_map at e
  obtain ⟨o, eo, h9, e9, fr9, w9_0⟩ : ∃ o, m_law_map [some (.ref l0), some ((MV.fls (List.map e_FB up))), none, none, none, none, none] h = some o ∧ ∃ h9, defK (some o) = ok (MV.fls (List.map nV r.1)) h9 ∧ Fr h [l0] h9 ∧ h9[l0]? = some (c_RX6cel_at_val_dig_mix_salFINNNNN r.2) := by
    unfold m_law_map
    have fr0 : Fr h [l0] h := Fr.refl
    refine W_seq (setS_ok (y_len (f := e_FB) (xs := up) (r_var rfl) rfl)) ?_
    obtain ⟨g_1, e⟩ := gd_e e
    obtain ⟨c4, h_c4, e⟩ := lett_e e
    obtain ⟨p2, q_p2⟩ : ∃ x : Nat, x = h.length := ⟨_, rfl⟩
    obtain ⟨h3, q_h3⟩ : ∃ x : MH, x = h ++ [(MO.lst (List.map nV c4))] := ⟨_, rfl⟩
    have n_p2_0 : l0 ≠ p2 := by rw [q_p2]; exact Nat.ne_of_lt (g_lt w0)
    have w_h3_0 : h3[l0]? = some (c_RX6cel_at_val_dig_mix_salFINNNNN tape) := by rw [q_h3]; exact g_ap w0
    have w_h3_1 : h3[p2]? = some (MO.lst (List.map nV c4)) := by rw [q_h3]; exact g_nw q_p2
    have lo_p2 : h.length ≤ p2 := by rw [q_p2]; exact fr0.1
    have fr_h3 : Fr h [l0] h3 := by rw [q_h3]; exact fr0.app
    refine W_seq (setS_ok (y_ref (z_rng (r_var rfl) g_1) q_p2 (Eq.trans q_h3 (congrArg (fun z => h ++ [(MO.lst (List.map nV z))]) h_c4)))) ?_
    obtain ⟨c8, b_c8, e⟩ := obind e
    obtain ⟨h9, a10, fr_h9, w_h9_0, w_h9_1⟩ : ∃ h9, (andT (tstM (opM gtF (varM 2) (cM (.int 0)))) (tstM (opM eqF (callM f_law_draw [] (consA (varM 0) (consA (cM (.int 3)) nilA))) (cM (.int 0))))) [some (.ref l0), some (MV.fls (List.map e_FB up)), some (nV up.length), some (.ref p2), none, none, none] h3 = ok c8.1 h9 ∧ Fr h [l0] h9 ∧ h9[l0]? = some (c_RX6cel_at_val_dig_mix_salFINNNNN c8.2) ∧ h9[p2]? = some (MO.lst (List.map nV c4)) := by
      rcases ite_e b_c8 with ⟨hc, e⟩ | ⟨hc, e⟩
      · skip
        obtain ⟨r5, b_r5, e⟩ := obind e
        have c6 := tt_law_draw (h := h3) w_h3_0 b_r5
        obtain ⟨h7, q_h7⟩ : ∃ x : MH, x = h3.set l0 (c_RX6cel_at_val_dig_mix_salFINNNNN r5.2) := ⟨_, rfl⟩
        have w_h7_0 : h7[l0]? = some (c_RX6cel_at_val_dig_mix_salFINNNNN r5.2) := by rw [q_h7]; exact g_eq w_h3_0
        have w_h7_1 : h7[p2]? = some (MO.lst (List.map nV c4)) := by rw [q_h7]; exact g_ne w_h3_1 n_p2_0
        have fr_h7 : Fr h [l0] h7 := by rw [q_h7]; exact fr_h3.inn (by simp)
        rw [← q_h7] at c6
        obtain rfl := some_e e
        exact ⟨_, y_andTt (r_tst (r_gt (i := up.length) (j := 0) (r_var rfl) rfl)) hc (r_tst (r_eq (i := r5.1) (j := 0) (callM_ok (consA_ok (r_var rfl) (consA_ok rfl r_nil)) c6) rfl)), fr_h7, w_h7_0, w_h7_1⟩
      · skip
        obtain rfl := some_e e
        exact ⟨_, y_andTf (r_tst (r_gt (i := up.length) (j := 0) (r_var rfl) rfl)) hc, fr_h3, w_h3_0, w_h3_1⟩
    obtain ⟨j11, b_j11, e⟩ := obind e
    refine W_join (Q := fun s14 h15 => ∃ p12 : Nat, s14 = [some (.ref l0), some (MV.fls (List.map e_FB up)), some (nV up.length), some (.ref p12), none, none, none] ∧ Fr h [l0] h15 ∧ h15[l0]? = some (c_RX6cel_at_val_dig_mix_salFINNNNN j11.2) ∧ h15[p12]? = some (MO.lst (List.map nV j11.1)) ∧ h.length ≤ p12 ∧ l0 ≠ p12) ?_ ?_
    · rcases ite_e b_j11 with ⟨hc, e⟩ | ⟨hc, e⟩
      · refine W_t a10 hc ?_
        refine W_lst ?_
        obtain ⟨r16, b_r16, e⟩ := obind e
        have c17 := tt_law_draw (h := h9) w_h9_0 b_r16
        obtain ⟨h18, q_h18⟩ : ∃ x : MH, x = h9.set l0 (c_RX6cel_at_val_dig_mix_salFINNNNN r16.2) := ⟨_, rfl⟩
        have w_h18_0 : h18[l0]? = some (c_RX6cel_at_val_dig_mix_salFINNNNN r16.2) := by rw [q_h18]; exact g_eq w_h9_0
        have w_h18_1 : h18[p2]? = some (MO.lst (List.map nV c4)) := by rw [q_h18]; exact g_ne w_h9_1 n_p2_0
        have fr_h18 : Fr h [l0] h18 := by rw [q_h18]; exact fr_h9.inn (by simp)
        rw [← q_h18] at c17
        obtain ⟨g_19, e⟩ := gd_e e
        obtain ⟨g_20, e⟩ := gd_e e
        obtain ⟨c23, h_c23, e⟩ := lett_e e
        obtain ⟨p21, q_p21⟩ : ∃ x : Nat, x = h18.length := ⟨_, rfl⟩
        obtain ⟨h22, q_h22⟩ : ∃ x : MH, x = h18 ++ [(MO.lst (List.map nV c23))] := ⟨_, rfl⟩
        have n_p21_0 : l0 ≠ p21 := by rw [q_p21]; exact Nat.ne_of_lt (g_lt w_h18_0)
        have w_h22_0 : h22[l0]? = some (c_RX6cel_at_val_dig_mix_salFINNNNN r16.2) := by rw [q_h22]; exact g_ap w_h18_0
        have n_p21_1 : p2 ≠ p21 := by rw [q_p21]; exact Nat.ne_of_lt (g_lt w_h18_1)
        have w_h22_1 : h22[p2]? = some (MO.lst (List.map nV c4)) := by rw [q_h22]; exact g_ap w_h18_1
        have w_h22_3 : h22[p21]? = some (MO.lst (List.map nV c23)) := by rw [q_h22]; exact g_nw q_p21
        have lo_p21 : h.length ≤ p21 := by rw [q_p21]; exact fr_h18.1
        have fr_h22 : Fr h [l0] h22 := by rw [q_h22]; exact fr_h18.app
        refine W_seq (setS_ok (y_ref (z_rep (f := nV) (xs := [r16.1]) (i := up.length) (r_fls (r_lst (consA_ok (callM_ok (consA_ok (r_var rfl) (consA_ok (r_var rfl) r_nil)) c17) r_nil) (by show 1 ≤ 400000; omega))) (r_var rfl) rfl g_19 g_20) q_p21 (Eq.trans q_h22 (congrArg (fun z => h18 ++ [(MO.lst (List.map nV z))]) h_c23)))) ?_
        refine W_nil ?_
        obtain rfl := some_e e
        exact ⟨_, _, rfl, _, rfl, fr_h22, w_h22_0, w_h22_3, lo_p21, n_p21_0⟩
      · refine W_f a10 hc ?_
        refine W_nil ?_
        obtain rfl := some_e e
        exact ⟨_, _, rfl, _, rfl, fr_h9, w_h9_0, w_h9_1, lo_p2, n_p2_0⟩
    rintro _ h13 ⟨p12, rfl, fr_h13, w_h13_0, w_h13_2, lo_p12, n_p12_0⟩
    obtain ⟨r24, b_r24, e⟩ := obind e
    have c25 := tt_law_draw (h := h13) w_h13_0 b_r24
    obtain ⟨h26, q_h26⟩ : ∃ x : MH, x = h13.set l0 (c_RX6cel_at_val_dig_mix_salFINNNNN r24.2) := ⟨_, rfl⟩
    have w_h26_0 : h26[l0]? = some (c_RX6cel_at_val_dig_mix_salFINNNNN r24.2) := by rw [q_h26]; exact g_eq w_h13_0
    have w_h26_2 : h26[p12]? = some (MO.lst (List.map nV j11.1)) := by rw [q_h26]; exact g_ne w_h13_2 n_p12_0
    have fr_h26 : Fr h [l0] h26 := by rw [q_h26]; exact fr_h13.inn (by simp)
    rw [← q_h26] at c25
    obtain ⟨g_27, e⟩ := gd_e e
    obtain ⟨q43, b_q43, e⟩ := obind e
    refine W_forO (e := nV) (xs := (List.range r24.1)) (f := (tb1_law_map up)) (fun (q28 : (((List Int) × Nat × Nat × Nat × Nat × Nat) × (List Nat))) s30 h31 => s30 = [some (.ref l0), some (MV.fls (List.map e_FB up)), some (nV up.length), some (.ref p12), none, none, none] ∧ Fr h [l0] h31 ∧ h31[l0]? = some (c_RX6cel_at_val_dig_mix_salFINNNNN q28.1) ∧ h31[p12]? = some (MO.lst (List.map nV q28.2)) ∧ h.length ≤ p12 ∧ l0 ≠ p12) (q_rng (n := r24.1) (callM_ok (consA_ok (r_var rfl) (consA_ok (r_add (i := (4 * up.length)) (j := 1) (n_mul (i := 4) (j := up.length) rfl (r_var rfl) (.inl ⟨by omega, by omega⟩)) rfl) r_nil)) c25) g_27) ⟨rfl, fr_h26, w_h26_0, w_h26_2, lo_p12, n_p12_0⟩ b_q43 (fun q28 k29 s h31 b ra e => ?_) ?_
    · obtain ⟨rfl, fr_h31, w_h31_0, w_h31_2, lo_p12, n_p12_0⟩ := ra
      unfold tb1_law_map at e
      refine W_turn rfl ?_
      unfold b1_law_map
      refine W_wip' ?_
      obtain ⟨r32, b_r32, e⟩ := obind e
      have c33 := tt_law_draw (h := h31) w_h31_0 b_r32
      obtain ⟨h34, q_h34⟩ : ∃ x : MH, x = h31.set l0 (c_RX6cel_at_val_dig_mix_salFINNNNN r32.2) := ⟨_, rfl⟩
      have w_h34_0 : h34[l0]? = some (c_RX6cel_at_val_dig_mix_salFINNNNN r32.2) := by rw [q_h34]; exact g_eq w_h31_0
      have w_h34_2 : h34[p12]? = some (MO.lst (List.map nV q28.2)) := by rw [q_h34]; exact g_ne w_h31_2 n_p12_0
      have fr_h34 : Fr h [l0] h34 := by rw [q_h34]; exact fr_h31.inn (by simp)
      rw [← q_h34] at c33
      refine W_seq (setS_ok (callM_ok (consA_ok (r_var rfl) (consA_ok (r_var rfl) r_nil)) c33)) ?_
      obtain ⟨r35, b_r35, e⟩ := obind e
      have c36 := tt_law_draw (h := h34) w_h34_0 b_r35
      obtain ⟨h37, q_h37⟩ : ∃ x : MH, x = h34.set l0 (c_RX6cel_at_val_dig_mix_salFINNNNN r35.2) := ⟨_, rfl⟩
      have w_h37_0 : h37[l0]? = some (c_RX6cel_at_val_dig_mix_salFINNNNN r35.2) := by rw [q_h37]; exact g_eq w_h34_0
      have w_h37_2 : h37[p12]? = some (MO.lst (List.map nV q28.2)) := by rw [q_h37]; exact g_ne w_h34_2 n_p12_0
      have fr_h37 : Fr h [l0] h37 := by rw [q_h37]; exact fr_h34.inn (by simp)
      rw [← q_h37] at c36
      refine W_seq (setS_ok (callM_ok (consA_ok (r_var rfl) (consA_ok (r_var rfl) r_nil)) c36)) ?_
      obtain ⟨r38, b_r38, e⟩ := obind e
      have c39 := tt_law_fits (h := h37) w_h37_2 b_r38
      rcases ite_e e with ⟨hc, e⟩ | ⟨hc, e⟩
      · refine W_t (r_tru (callM_ok (consA_ok (r_var rfl) (consA_ok (r_var rfl) (consA_ok (r_var rfl) (consA_ok (r_var rfl) r_nil)))) c39)) hc ?_
        refine W_lst ?_
        obtain ⟨g_40, e⟩ := gd_e e
        obtain ⟨c42, h_c42, e⟩ := lett_e e
        obtain ⟨h41, q_h41⟩ : ∃ x : MH, x = h37.set p12 (MO.lst (List.map nV c42)) := ⟨_, rfl⟩
        have w_h41_0 : h41[l0]? = some (c_RX6cel_at_val_dig_mix_salFINNNNN r35.2) := by rw [q_h41]; exact g_ne w_h37_0 (Ne.symm n_p12_0)
        have w_h41_2 : h41[p12]? = some (MO.lst (List.map nV c42)) := by rw [q_h41]; exact g_eq w_h37_2
        have fr_h41 : Fr h [l0] h41 := by rw [q_h41]; exact fr_h37.out lo_p12
        refine W_seq (y_put (f := nV) (xs := q28.2) (i := r32.1) (x := r35.1) (r_var rfl) (r_var rfl) (r_var rfl) w_h37_2 g_40 (Eq.trans q_h41 (congrArg (fun z => List.set h37 p12 (MO.lst (List.map nV z))) h_c42))) ?_
        refine W_nil ?_
        obtain rfl := some_e e
        exact ⟨_, rfl, _, _, .inl rfl, ⟨rfl, fr_h41, w_h41_0, w_h41_2, lo_p12, n_p12_0⟩⟩
      · refine W_f (r_tru (callM_ok (consA_ok (r_var rfl) (consA_ok (r_var rfl) (consA_ok (r_var rfl) (consA_ok (r_var rfl) r_nil)))) c39)) hc ?_
        refine W_nil ?_
        obtain rfl := some_e e
        exact ⟨_, rfl, _, _, .inl rfl, ⟨rfl, fr_h37, w_h37_0, w_h37_2, lo_p12, n_p12_0⟩⟩
    rintro _ h44 ⟨rfl, fr_h44, w_h44_0, w_h44_2, lo_p12, n_p12_0⟩
    obtain ⟨h45, q_h45⟩ : ∃ x : MH, x = h44.set p12 MO.dead := ⟨_, rfl⟩
    have w_h45_0 : h45[l0]? = some (c_RX6cel_at_val_dig_mix_salFINNNNN q43.1) := by rw [q_h45]; exact g_ne w_h44_0 (Ne.symm n_p12_0)
    have fr_h45 : Fr h [l0] h45 := by rw [q_h45]; exact fr_h44.out lo_p12
    refine W_ret (y_frz (r_var rfl) w_h44_2 (all_flat (f := nV) (fun _ => rfl)) q_h45) ?_
    obtain rfl := some_e e
    exact ⟨_, rfl, fr_h45, w_h45_0⟩
  have ef : defM 2 7 m_law_map [.ref l0, (MV.fls (List.map e_FB up))] h = ok (MV.fls (List.map nV r.1)) h9 := x_law_map.trans (by rw [eo]; exact e9)
  have := cut_fr ef fr9 ((fun (q : (List Nat)) => clo_F (f := nV) (fun _ => rfl)) r.1) (fun l hl => by rw [List.mem_singleton.mp hl]; exact ⟨_, w9_0, (and_i ((fun (q : (List Int)) => clo_F (f := MV.int) (fun _ => rfl)) r.2.1) (and_i ((fun _ => rfl) r.2.2.1) (and_i ((fun _ => rfl) r.2.2.2.1) (and_i ((fun _ => rfl) r.2.2.2.2.1) (and_i ((fun _ => rfl) r.2.2.2.2.2.1) (and_i ((fun _ => rfl) r.2.2.2.2.2.2) (rfl)))))))⟩)
  rwa [fr9.to1 w9_0] at this
def tb1_law_named (names : (List Nat)) (row : (List Nat)) (q7 : (List Nat)) (x8 : Nat) : Option (List Nat) :=
  (row[x8]?).bind fun v11 =>
  (names[v11]?).bind fun v12 =>
  (names[x8]?).bind fun v13 =>
  gd (v13 < q7.length) <|
  lett ((q7.set v13 v12) : (List Nat)) fun c16 =>
  some c16
def t_law_named (names : (List Nat)) (row : (List Nat)) : Option (List Nat) :=
  gd ([0].length * row.length ≤ 400000) <|
  gd (row.length ≤ 400000) <|
  lett ((List.replicate row.length [0]).flatten : (List Nat)) fun c5 =>
  gd (row.length ≤ 400000) <|
  (forO (tb1_law_named names row) (List.range row.length) c5).bind fun q17 =>
  some q17
theorem tt_law_named {h : MH} {names : (List Nat)} {row : (List Nat)} {r : (List Nat)}  (e : t_law_named names row = some r) : f_law_named [(MV.fls (List.map nV names)), (MV.fls (List.map nV row))] h = ok (MV.tup (List.map nV r)) h := by
  unfold t_law_named at e
  obtain ⟨o, eo, h9, e9, fr9⟩ : ∃ o, m_law_named [some ((MV.fls (List.map nV names))), some ((MV.fls (List.map nV row))), none, none] h = some o ∧ ∃ h9, defK (some o) = ok (MV.tup (List.map nV r)) h9 ∧ Fr h [] h9 := by
    unfold m_law_named
    have fr0 : Fr h [] h := Fr.refl
    obtain ⟨g_1, e⟩ := gd_e e
    obtain ⟨g_2, e⟩ := gd_e e
    obtain ⟨c5, h_c5, e⟩ := lett_e e
    obtain ⟨p3, q_p3⟩ : ∃ x : Nat, x = h.length := ⟨_, rfl⟩
    obtain ⟨h4, q_h4⟩ : ∃ x : MH, x = h ++ [(MO.lst (List.map nV c5))] := ⟨_, rfl⟩
    have w_h4_0 : h4[p3]? = some (MO.lst (List.map nV c5)) := by rw [q_h4]; exact g_nw q_p3
    have lo_p3 : h.length ≤ p3 := by rw [q_p3]; exact fr0.1
    have fr_h4 : Fr h [] h4 := by rw [q_h4]; exact fr0.app
    refine W_seq (setS_ok (y_ref (z_rep (f := nV) (xs := [0]) (i := row.length) (r_fls (r_lst (consA_ok rfl r_nil) (by show 1 ≤ 400000; omega))) (y_len (f := nV) (xs := row) (r_var rfl) rfl) rfl g_1 g_2) q_p3 (Eq.trans q_h4 (congrArg (fun z => h ++ [(MO.lst (List.map nV z))]) h_c5)))) ?_
    obtain ⟨g_6, e⟩ := gd_e e
    obtain ⟨q17, b_q17, e⟩ := obind e
    refine W_forO (e := nV) (xs := (List.range row.length)) (f := (tb1_law_named names row)) (fun (q7 : (List Nat)) s9 h10 => s9 = [some (MV.fls (List.map nV names)), some (MV.fls (List.map nV row)), some (.ref p3), none] ∧ Fr h [] h10 ∧ h10[p3]? = some (MO.lst (List.map nV q7))) (q_rng (n := row.length) (y_len (f := nV) (xs := row) (r_var rfl) rfl) g_6) ⟨rfl, fr_h4, w_h4_0⟩ b_q17 (fun q7 x8 s h10 b ra e => ?_) ?_
    · obtain ⟨rfl, fr_h10, w_h10_0⟩ := ra
      unfold tb1_law_named at e
      refine W_turn rfl ?_
      unfold b1_law_named
      refine W_wip' ?_
      refine W_lst ?_
      obtain ⟨v11, b_v11, e⟩ := obind e
      obtain ⟨v12, b_v12, e⟩ := obind e
      obtain ⟨v13, b_v13, e⟩ := obind e
      obtain ⟨g_14, e⟩ := gd_e e
      obtain ⟨c16, h_c16, e⟩ := lett_e e
      obtain ⟨h15, q_h15⟩ : ∃ x : MH, x = h10.set p3 (MO.lst (List.map nV c16)) := ⟨_, rfl⟩
      have w_h15_0 : h15[p3]? = some (MO.lst (List.map nV c16)) := by rw [q_h15]; exact g_eq w_h10_0
      have fr_h15 : Fr h [] h15 := by rw [q_h15]; exact fr_h10.out lo_p3
      refine W_seq (y_put (f := nV) (xs := q7) (i := v13) (x := v12) (y_ix (f := nV) (xs := names) (i := v11) (r_var rfl) (y_ix (f := nV) (xs := row) (i := x8) (r_var rfl) (r_var rfl) rfl b_v11) rfl b_v12) (r_var rfl) (y_ix (f := nV) (xs := names) (i := x8) (r_var rfl) (r_var rfl) rfl b_v13) w_h10_0 g_14 (Eq.trans q_h15 (congrArg (fun z => List.set h10 p3 (MO.lst (List.map nV z))) h_c16))) ?_
      refine W_nil ?_
      obtain rfl := some_e e
      exact ⟨_, rfl, _, _, .inl rfl, ⟨rfl, fr_h15, w_h15_0⟩⟩
    rintro _ h18 ⟨rfl, fr_h18, w_h18_0⟩
    refine W_ret (r_tupr (r_var rfl) w_h18_0) ?_
    obtain rfl := some_e e
    exact ⟨_, rfl, fr_h18⟩
  have ef : defM 2 4 m_law_named [(MV.fls (List.map nV names)), (MV.fls (List.map nV row))] h = ok (MV.tup (List.map nV r)) h9 := x_law_named.trans (by rw [eo]; exact e9)
  have := cut_fr ef fr9 ((fun (q : (List Nat)) => clo_V (f := nV) (fun _ => rfl)) r) (fun _ hl => absurd hl List.not_mem_nil)
  rwa [fr9.to0] at this
def tb1_law_covers (up : (List (List Bool))) (q4 : (List (List Nat))) (x5 : Nat) : Option (List (List Nat)) :=
  gd (up.length ≤ 400000) <|
  gd ((List.range up.length).length ≤ 400000) <|
  (lcO (fun y9 : Nat => (up[x5]?).bind fun v10 => (v10[y9]?).bind fun v11 => some v11) (fun y9 : Nat => ( some y9 : Option Nat)) (List.range up.length)).bind fun r13 =>
  gd (up.length ≤ 400000) <|
  gd ((List.range up.length).length ≤ 400000) <|
  (lcO (fun y16 : Nat => (up[y16]?).bind fun v17 => (v17[x5]?).bind fun v18 => some v18) (fun y16 : Nat => ( some y16 : Option Nat)) (List.range up.length)).bind fun r20 =>
  gd (r13.length ≤ 400000) <|
  (lcO (fun y22 : Nat => gd (r13.length ≤ 400000) <| (lcO (fun z23 : Nat => (up[z23]?).bind fun v24 => (v24[y22]?).bind fun v25 => some v25) (fun z23 : Nat => ( some z23 : Option Nat)) r13).bind fun r27 => some (decide (r27.length = 0))) (fun y22 : Nat => ( some y22 : Option Nat)) r13).bind fun r30 =>
  gd (r20.length ≤ 400000) <|
  (lcO (fun y32 : Nat => gd (r20.length ≤ 400000) <| (lcO (fun z33 : Nat => (up[y32]?).bind fun v34 => (v34[z33]?).bind fun v35 => some v35) (fun z33 : Nat => ( some z33 : Option Nat)) r20).bind fun r37 => some (decide (r37.length = 0))) (fun y32 : Nat => ( some y32 : Option Nat)) r20).bind fun r40 =>
  gd (r30.length + r40.length ≤ 400000) <|
  gd (q4.length ≤ 400000) <|
  lett ((q4 ++ [(r30 ++ r40)]) : (List (List Nat))) fun c45 =>
  some c45
def t_law_covers (up : (List (List Bool))) : Option (List (List Nat)) :=
  gd (up.length ≤ 400000) <|
  (forO (tb1_law_covers up) (List.range up.length) []).bind fun q46 =>
  some q46
theorem tt_law_covers {h : MH} {up : (List (List Bool))} {r : (List (List Nat))}  (e : t_law_covers up = some r) : f_law_covers [(MV.fls (List.map e_FB up))] h = ok (MV.fls (List.map e_FN r)) h := by
  unfold t_law_covers at e
  obtain ⟨o, eo, h9, e9, fr9⟩ : ∃ o, m_law_covers [some ((MV.fls (List.map e_FB up))), none, none, none, none, none, none, none, none] h = some o ∧ ∃ h9, defK (some o) = ok (MV.fls (List.map e_FN r)) h9 ∧ Fr h [] h9 := by
    unfold m_law_covers
    have fr0 : Fr h [] h := Fr.refl
    refine W_seq (setS_ok (y_len (f := e_FB) (xs := up) (r_var rfl) rfl)) ?_
    obtain ⟨p1, q_p1⟩ : ∃ x : Nat, x = h.length := ⟨_, rfl⟩
    obtain ⟨h2, q_h2⟩ : ∃ x : MH, x = h ++ [(MO.lst (List.map e_FN []))] := ⟨_, rfl⟩
    have w_h2_0 : h2[p1]? = some (MO.lst (List.map e_FN [])) := by rw [q_h2]; exact g_nw q_p1
    have lo_p1 : h.length ≤ p1 := by rw [q_p1]; exact fr0.1
    have fr_h2 : Fr h [] h2 := by rw [q_h2]; exact fr0.app
    refine W_seq (setS_ok (y_ref (r_lst r_nil (by show 0 ≤ 400000; omega)) q_p1 q_h2)) ?_
    obtain ⟨g_3, e⟩ := gd_e e
    obtain ⟨q46, b_q46, e⟩ := obind e
    refine W_forO (e := nV) (xs := (List.range up.length)) (f := (tb1_law_covers up)) (fun (q4 : (List (List Nat))) s6 h7 => s6 = [some (MV.fls (List.map e_FB up)), some (nV up.length), some (.ref p1), none, none, none, none, none, none] ∧ Fr h [] h7 ∧ h7[p1]? = some (MO.lst (List.map e_FN q4))) (q_rng (n := up.length) (r_var rfl) g_3) ⟨rfl, fr_h2, w_h2_0⟩ b_q46 (fun q4 x5 s h7 b ra e => ?_) ?_
    · obtain ⟨rfl, fr_h7, w_h7_0⟩ := ra
      unfold tb1_law_covers at e
      refine W_turn rfl ?_
      unfold b1_law_covers
      refine W_wip' ?_
      obtain ⟨g_8, e⟩ := gd_e e
      obtain ⟨g_12, e⟩ := gd_e e
      obtain ⟨r13, b_r13, e⟩ := obind e
      have z14 : (lcM (rng1 (consA (varM 1) nilA)) [5] (one 5) (truM (opM ixF (opM ixF (varM 0) (varM 3)) (varM 5))) (varM 5)) [some (MV.fls (List.map e_FB up)), some (nV up.length), some (.ref p1), some (nV x5), none, none, none, none, none] h7 = ok (List.map nV r13) h7 := z_lcO (f := nV) (g := nV) (xs := (List.range up.length)) (q_rng (n := up.length) (r_var rfl) g_8) g_12 (fun _ => rfl)
          (fun y9 b e => by
            obtain ⟨v10, b_v10, e⟩ := obind e
            obtain ⟨v11, b_v11, e⟩ := obind e
            obtain rfl := some_e e
            exact (r_tru (y_ix (f := MV.bl) (xs := v10) (i := y9) (y_ix (f := e_FB) (xs := up) (i := x5) (r_var rfl) (r_var rfl) rfl b_v10) (r_var rfl) rfl b_v11)))
          (fun y9 y e => by
            obtain rfl := some_e e
            exact (r_var rfl)) b_r13
      refine W_seq (setS_ok (r_fls z14)) ?_
      obtain ⟨g_15, e⟩ := gd_e e
      obtain ⟨g_19, e⟩ := gd_e e
      obtain ⟨r20, b_r20, e⟩ := obind e
      have z21 : (lcM (rng1 (consA (varM 1) nilA)) [5] (one 5) (truM (opM ixF (opM ixF (varM 0) (varM 5)) (varM 3))) (varM 5)) [some (MV.fls (List.map e_FB up)), some (nV up.length), some (.ref p1), some (nV x5), some (MV.fls (List.map nV r13)), none, none, none, none] h7 = ok (List.map nV r20) h7 := z_lcO (f := nV) (g := nV) (xs := (List.range up.length)) (q_rng (n := up.length) (r_var rfl) g_15) g_19 (fun _ => rfl)
          (fun y16 b e => by
            obtain ⟨v17, b_v17, e⟩ := obind e
            obtain ⟨v18, b_v18, e⟩ := obind e
            obtain rfl := some_e e
            exact (r_tru (y_ix (f := MV.bl) (xs := v17) (i := x5) (y_ix (f := e_FB) (xs := up) (i := y16) (r_var rfl) (r_var rfl) rfl b_v17) (r_var rfl) rfl b_v18)))
          (fun y16 y e => by
            obtain rfl := some_e e
            exact (r_var rfl)) b_r20
      refine W_seq (setS_ok (r_fls z21)) ?_
      obtain ⟨g_29, e⟩ := gd_e e
      obtain ⟨r30, b_r30, e⟩ := obind e
      have z31 : (lcM (seqI (varM 4)) [5] (one 5) (tstM (opM eqF (bltM lenF (consA (flsM (lcM (seqI (varM 4)) [8] (one 8) (truM (opM ixF (opM ixF (varM 0) (varM 8)) (varM 5))) (varM 8))) nilA)) (cM (.int 0)))) (varM 5)) [some (MV.fls (List.map e_FB up)), some (nV up.length), some (.ref p1), some (nV x5), some (MV.fls (List.map nV r13)), none, some (MV.fls (List.map nV r20)), none, none] h7 = ok (List.map nV r30) h7 := z_lcO (f := nV) (g := nV) (xs := r13) (q_fls (r_var rfl)) g_29 (fun _ => rfl)
          (fun y22 b e => by
            obtain ⟨g_26, e⟩ := gd_e e
            obtain ⟨r27, b_r27, e⟩ := obind e
            have z28 : (lcM (seqI (varM 4)) [8] (one 8) (truM (opM ixF (opM ixF (varM 0) (varM 8)) (varM 5))) (varM 8)) [some (MV.fls (List.map e_FB up)), some (nV up.length), some (.ref p1), some (nV x5), some (MV.fls (List.map nV r13)), some (nV y22), some (MV.fls (List.map nV r20)), none, none] h7 = ok (List.map nV r27) h7 := z_lcO (f := nV) (g := nV) (xs := r13) (q_fls (r_var rfl)) g_26 (fun _ => rfl)
                (fun z23 b e => by
                  obtain ⟨v24, b_v24, e⟩ := obind e
                  obtain ⟨v25, b_v25, e⟩ := obind e
                  obtain rfl := some_e e
                  exact (r_tru (y_ix (f := MV.bl) (xs := v24) (i := y22) (y_ix (f := e_FB) (xs := up) (i := z23) (r_var rfl) (r_var rfl) rfl b_v24) (r_var rfl) rfl b_v25)))
                (fun z23 y e => by
                  obtain rfl := some_e e
                  exact (r_var rfl)) b_r27
            obtain rfl := some_e e
            exact (r_tst (r_eq (i := r27.length) (j := 0) (y_len (f := nV) (xs := r27) (r_fls z28) rfl) rfl)))
          (fun y22 y e => by
            obtain rfl := some_e e
            exact (r_var rfl)) b_r30
      refine W_seq (setS_ok (r_fls z31)) ?_
      refine W_lst ?_
      obtain ⟨g_39, e⟩ := gd_e e
      obtain ⟨r40, b_r40, e⟩ := obind e
      have z41 : (lcM (seqI (varM 6)) [5] (one 5) (tstM (opM eqF (bltM lenF (consA (flsM (lcM (seqI (varM 6)) [8] (one 8) (truM (opM ixF (opM ixF (varM 0) (varM 5)) (varM 8))) (varM 8))) nilA)) (cM (.int 0)))) (varM 5)) [some (MV.fls (List.map e_FB up)), some (nV up.length), some (.ref p1), some (nV x5), some (MV.fls (List.map nV r13)), none, some (MV.fls (List.map nV r20)), some (MV.fls (List.map nV r30)), none] h7 = ok (List.map nV r40) h7 := z_lcO (f := nV) (g := nV) (xs := r20) (q_fls (r_var rfl)) g_39 (fun _ => rfl)
          (fun y32 b e => by
            obtain ⟨g_36, e⟩ := gd_e e
            obtain ⟨r37, b_r37, e⟩ := obind e
            have z38 : (lcM (seqI (varM 6)) [8] (one 8) (truM (opM ixF (opM ixF (varM 0) (varM 5)) (varM 8))) (varM 8)) [some (MV.fls (List.map e_FB up)), some (nV up.length), some (.ref p1), some (nV x5), some (MV.fls (List.map nV r13)), some (nV y32), some (MV.fls (List.map nV r20)), some (MV.fls (List.map nV r30)), none] h7 = ok (List.map nV r37) h7 := z_lcO (f := nV) (g := nV) (xs := r20) (q_fls (r_var rfl)) g_36 (fun _ => rfl)
                (fun z33 b e => by
                  obtain ⟨v34, b_v34, e⟩ := obind e
                  obtain ⟨v35, b_v35, e⟩ := obind e
                  obtain rfl := some_e e
                  exact (r_tru (y_ix (f := MV.bl) (xs := v34) (i := z33) (y_ix (f := e_FB) (xs := up) (i := y32) (r_var rfl) (r_var rfl) rfl b_v34) (r_var rfl) rfl b_v35)))
                (fun z33 y e => by
                  obtain rfl := some_e e
                  exact (r_var rfl)) b_r37
            obtain rfl := some_e e
            exact (r_tst (r_eq (i := r37.length) (j := 0) (y_len (f := nV) (xs := r37) (r_fls z38) rfl) rfl)))
          (fun y32 y e => by
            obtain rfl := some_e e
            exact (r_var rfl)) b_r40
      obtain ⟨g_42, e⟩ := gd_e e
      obtain ⟨g_43, e⟩ := gd_e e
      obtain ⟨c45, h_c45, e⟩ := lett_e e
      obtain ⟨h44, q_h44⟩ : ∃ x : MH, x = h7.set p1 (MO.lst (List.map e_FN c45)) := ⟨_, rfl⟩
      have w_h44_0 : h44[p1]? = some (MO.lst (List.map e_FN c45)) := by rw [q_h44]; exact g_eq w_h7_0
      have fr_h44 : Fr h [] h44 := by rw [q_h44]; exact fr_h7.out lo_p1
      refine W_seq (t_drop (y_push (f := e_FN) (xs := q4) (x := (r30 ++ r40)) (r_var rfl) (consA_ok (r_fls (z_cat (f := nV) (xs := r30) (ys := r40) (r_var rfl) (r_fls z41) rfl rfl g_42)) r_nil) w_h7_0 w_h7_0 g_43 (Eq.trans q_h44 (congrArg (fun z => List.set h7 p1 (MO.lst (List.map e_FN z))) h_c45)))) ?_
      refine W_nil ?_
      obtain rfl := some_e e
      exact ⟨_, rfl, _, _, .inl rfl, ⟨rfl, fr_h44, w_h44_0⟩⟩
    rintro _ h47 ⟨rfl, fr_h47, w_h47_0⟩
    obtain ⟨h48, q_h48⟩ : ∃ x : MH, x = h47.set p1 MO.dead := ⟨_, rfl⟩
    have fr_h48 : Fr h [] h48 := by rw [q_h48]; exact fr_h47.out lo_p1
    refine W_ret (y_frz (r_var rfl) w_h47_0 (all_flat (f := e_FN) (fun _ => rfl)) q_h48) ?_
    obtain rfl := some_e e
    exact ⟨_, rfl, fr_h48⟩
  have ef : defM 1 9 m_law_covers [(MV.fls (List.map e_FB up))] h = ok (MV.fls (List.map e_FN r)) h9 := x_law_covers.trans (by rw [eo]; exact e9)
  have := cut_fr ef fr9 ((fun (q : (List (List Nat))) => clo_F (f := e_FN) (fun (q : (List Nat)) => clo_F (f := nV) (fun _ => rfl))) r) (fun _ hl => absurd hl List.not_mem_nil)
  rwa [fr9.to0] at this
def tb1_law_signs (up : (List (List Bool))) (q19 : (List Int)) (rx20 : (Nat × Nat)) : Option (List Int) :=
  gd (up.length ≤ 400000) <|
  gd ((List.range up.length).length ≤ 400000) <|
  (lcO (fun y24 : Nat => (up[y24]?).bind fun v25 => (v25[rx20.2]?).bind fun v26 => some v26) (fun y24 : Nat => ((q19[y24]?).bind fun v27 => some v27 : Option Int)) (List.range up.length)).bind fun r29 =>
  gd (rx20.2 < q19.length) <|
  lett ((q19.set rx20.2 ((1 : Int) - r29.sum)) : (List Int)) fun c33 =>
  some c33
def t_law_signs (up : (List (List Bool))) : Option (List Int) :=
  gd (up.length ≤ 400000) <|
  gd ((List.range up.length).length ≤ 400000) <|
  (lcO (fun x2 : Nat =>  some true) (fun x2 : Nat => (gd (up.length ≤ 400000) <| gd ((List.range up.length).length ≤ 400000) <| (lcO (fun y4 : Nat => (up[y4]?).bind fun v5 => (v5[x2]?).bind fun v6 => some v6) (fun y4 : Nat => ( some y4 : Option Nat)) (List.range up.length)).bind fun r8 => some (r8.length, x2) : Option (Nat × Nat))) (List.range up.length)).bind fun r11 =>
  lett ((srtPP r11) : (List (Nat × Nat))) fun ranked13 =>
  gd ([(0 : Int)].length * up.length ≤ 400000) <|
  gd (up.length ≤ 400000) <|
  lett ((List.replicate up.length [(0 : Int)]).flatten : (List Int)) fun c18 =>
  (forO (tb1_law_signs up) ranked13 c18).bind fun q34 =>
  some q34
theorem tt_law_signs {h : MH} {up : (List (List Bool))} {r : (List Int)}  (e : t_law_signs up = some r) : f_law_signs [(MV.fls (List.map e_FB up))] h = ok (MV.fls (List.map MV.int r)) h := by
  unfold t_law_signs at e
  obtain ⟨o, eo, h9, e9, fr9⟩ : ∃ o, m_law_signs [some ((MV.fls (List.map e_FB up))), none, none, none, none, none, none] h = some o ∧ ∃ h9, defK (some o) = ok (MV.fls (List.map MV.int r)) h9 ∧ Fr h [] h9 := by
    unfold m_law_signs
    have fr0 : Fr h [] h := Fr.refl
    refine W_seq (setS_ok (y_len (f := e_FB) (xs := up) (r_var rfl) rfl)) ?_
    obtain ⟨g_1, e⟩ := gd_e e
    obtain ⟨g_10, e⟩ := gd_e e
    obtain ⟨r11, b_r11, e⟩ := obind e
    have z12 : (lcM (rng1 (consA (varM 1) nilA)) [4] (one 4) yesT (tupM (consA (bltM lenF (consA (flsM (lcM (rng1 (consA (varM 1) nilA)) [3] (one 3) (truM (opM ixF (opM ixF (varM 0) (varM 3)) (varM 4))) (varM 3))) nilA)) (consA (varM 4) nilA)))) [some (MV.fls (List.map e_FB up)), some (nV up.length), none, none, none, none, none] h = ok (List.map prV r11) h := z_lcO (f := nV) (g := prV) (xs := (List.range up.length)) (q_rng (n := up.length) (r_var rfl) g_1) g_10 (fun _ => rfl)
        (fun x2 b e => by
          obtain rfl := some_e e
          exact rfl)
        (fun x2 y e => by
          obtain ⟨g_3, e⟩ := gd_e e
          obtain ⟨g_7, e⟩ := gd_e e
          obtain ⟨r8, b_r8, e⟩ := obind e
          have z9 : (lcM (rng1 (consA (varM 1) nilA)) [3] (one 3) (truM (opM ixF (opM ixF (varM 0) (varM 3)) (varM 4))) (varM 3)) [some (MV.fls (List.map e_FB up)), some (nV up.length), none, none, some (nV x2), none, none] h = ok (List.map nV r8) h := z_lcO (f := nV) (g := nV) (xs := (List.range up.length)) (q_rng (n := up.length) (r_var rfl) g_3) g_7 (fun _ => rfl)
              (fun y4 b e => by
                obtain ⟨v5, b_v5, e⟩ := obind e
                obtain ⟨v6, b_v6, e⟩ := obind e
                obtain rfl := some_e e
                exact (r_tru (y_ix (f := MV.bl) (xs := v5) (i := x2) (y_ix (f := e_FB) (xs := up) (i := y4) (r_var rfl) (r_var rfl) rfl b_v5) (r_var rfl) rfl b_v6)))
              (fun y4 y e => by
                obtain rfl := some_e e
                exact (r_var rfl)) b_r8
          obtain rfl := some_e e
          exact (tupM_ok (consA_ok (y_len (f := nV) (xs := r8) (r_fls z9) rfl) (consA_ok (r_var rfl) r_nil)) (by show 2 ≤ 1000; omega))) b_r11
    obtain ⟨ranked13, h_ranked13, e⟩ := lett_e e
    refine W_seq (setS_ok (ok_lt (f := e_FP2NN) h_ranked13 (r_fls (z_srtPP (xs := r11) (r_fls z12) rfl)))) ?_
    obtain ⟨g_14, e⟩ := gd_e e
    obtain ⟨g_15, e⟩ := gd_e e
    obtain ⟨c18, h_c18, e⟩ := lett_e e
    obtain ⟨p16, q_p16⟩ : ∃ x : Nat, x = h.length := ⟨_, rfl⟩
    obtain ⟨h17, q_h17⟩ : ∃ x : MH, x = h ++ [(MO.lst (List.map MV.int c18))] := ⟨_, rfl⟩
    have w_h17_0 : h17[p16]? = some (MO.lst (List.map MV.int c18)) := by rw [q_h17]; exact g_nw q_p16
    have lo_p16 : h.length ≤ p16 := by rw [q_p16]; exact fr0.1
    have fr_h17 : Fr h [] h17 := by rw [q_h17]; exact fr0.app
    refine W_seq (setS_ok (y_ref (z_rep (f := MV.int) (xs := [(0 : Int)]) (i := up.length) (r_fls (r_lst (consA_ok rfl r_nil) (by show 1 ≤ 400000; omega))) (r_var rfl) rfl g_14 g_15) q_p16 (Eq.trans q_h17 (congrArg (fun z => h ++ [(MO.lst (List.map MV.int z))]) h_c18)))) ?_
    obtain ⟨q34, b_q34, e⟩ := obind e
    refine W_forO (e := prV) (xs := ranked13) (f := (tb1_law_signs up)) (fun (q19 : (List Int)) s21 h22 => s21 = [some (MV.fls (List.map e_FB up)), some (nV up.length), some (MV.fls (List.map prV ranked13)), none, none, some (.ref p16), none] ∧ Fr h [] h22 ∧ h22[p16]? = some (MO.lst (List.map MV.int q19))) (q_fls (r_var rfl)) ⟨rfl, fr_h17, w_h17_0⟩ b_q34 (fun q19 rx20 s h22 b ra e => ?_) ?_
    · obtain ⟨rfl, fr_h22, w_h22_0⟩ := ra
      unfold tb1_law_signs at e
      refine W_turn rfl ?_
      unfold b1_law_signs
      refine W_wip' ?_
      refine W_lst ?_
      obtain ⟨g_23, e⟩ := gd_e e
      obtain ⟨g_28, e⟩ := gd_e e
      obtain ⟨r29, b_r29, e⟩ := obind e
      have z30 : (lcM (rng1 (consA (varM 1) nilA)) [3] (one 3) (truM (opM ixF (opM ixF (varM 0) (varM 3)) (varM 4))) (opM ixF (varM 5) (varM 3))) [some (MV.fls (List.map e_FB up)), some (nV up.length), some (MV.fls (List.map prV ranked13)), none, some (nV rx20.2), some (.ref p16), some (nV rx20.1)] h22 = ok (List.map MV.int r29) h22 := z_lcO (f := nV) (g := MV.int) (xs := (List.range up.length)) (q_rng (n := up.length) (r_var rfl) g_23) g_28 (fun _ => rfl)
          (fun y24 b e => by
            obtain ⟨v25, b_v25, e⟩ := obind e
            obtain ⟨v26, b_v26, e⟩ := obind e
            obtain rfl := some_e e
            exact (r_tru (y_ix (f := MV.bl) (xs := v25) (i := rx20.2) (y_ix (f := e_FB) (xs := up) (i := y24) (r_var rfl) (r_var rfl) rfl b_v25) (r_var rfl) rfl b_v26)))
          (fun y24 y e => by
            obtain ⟨v27, b_v27, e⟩ := obind e
            obtain rfl := some_e e
            exact (y_ix (f := MV.int) (xs := q19) (i := y24) (r_var rfl) (r_var rfl) (sq_ref w_h22_0) b_v27)) b_r29
      obtain ⟨g_31, e⟩ := gd_e e
      obtain ⟨c33, h_c33, e⟩ := lett_e e
      obtain ⟨h32, q_h32⟩ : ∃ x : MH, x = h22.set p16 (MO.lst (List.map MV.int c33)) := ⟨_, rfl⟩
      have w_h32_0 : h32[p16]? = some (MO.lst (List.map MV.int c33)) := by rw [q_h32]; exact g_eq w_h22_0
      have fr_h32 : Fr h [] h32 := by rw [q_h32]; exact fr_h22.out lo_p16
      refine W_seq (y_put (f := MV.int) (xs := q19) (i := rx20.2) (x := ((1 : Int) - r29.sum)) (i_sub (i := (1 : Int)) (j := r29.sum) rfl (y_sumI (xs := r29) (r_fls z30) rfl)) (r_var rfl) (r_var rfl) w_h22_0 g_31 (Eq.trans q_h32 (congrArg (fun z => List.set h22 p16 (MO.lst (List.map MV.int z))) h_c33))) ?_
      refine W_nil ?_
      obtain rfl := some_e e
      exact ⟨_, rfl, _, _, .inl rfl, ⟨rfl, fr_h32, w_h32_0⟩⟩
    rintro _ h35 ⟨rfl, fr_h35, w_h35_0⟩
    obtain ⟨h36, q_h36⟩ : ∃ x : MH, x = h35.set p16 MO.dead := ⟨_, rfl⟩
    have fr_h36 : Fr h [] h36 := by rw [q_h36]; exact fr_h35.out lo_p16
    refine W_ret (y_frz (r_var rfl) w_h35_0 (all_flat (f := MV.int) (fun _ => rfl)) q_h36) ?_
    obtain rfl := some_e e
    exact ⟨_, rfl, fr_h36⟩
  have ef : defM 1 7 m_law_signs [(MV.fls (List.map e_FB up))] h = ok (MV.fls (List.map MV.int r)) h9 := x_law_signs.trans (by rw [eo]; exact e9)
  have := cut_fr ef fr9 ((fun (q : (List Int)) => clo_F (f := MV.int) (fun _ => rfl)) r) (fun _ hl => absurd hl List.not_mem_nil)
  rwa [fr9.to0] at this
def t_law_number (up : (List (List Bool))) (row : (List Nat)) : Option Int :=
  gd (up.length ≤ 400000) <|
  gd ((List.range up.length).length ≤ 400000) <|
  (lcO (fun x2 : Nat => (row[x2]?).bind fun v3 => some (decide (v3 = x2))) (fun x2 : Nat => ( some x2 : Option Nat)) (List.range up.length)).bind fun r5 =>
  gd (r5.length ≤ 400000) <|
  (lcO (fun x7 : Nat =>  some true) (fun x7 : Nat => (gd (r5.length ≤ 400000) <| (lcO (fun y8 : Nat =>  some true) (fun y8 : Nat => ((up[x7]?).bind fun v9 => (v9[y8]?).bind fun v10 => some v10 : Option Bool)) r5).bind fun r12 => some r12 : Option (List Bool))) r5).bind fun r15 =>
  (t_law_signs r15).bind fun r17 =>
  some r17.sum
theorem tt_law_number {h : MH} {up : (List (List Bool))} {row : (List Nat)} {r : Int}  (e : t_law_number up row = some r) : f_law_number [(MV.fls (List.map e_FB up)), (MV.fls (List.map nV row))] h = ok (MV.int r) h := by
  unfold t_law_number at e
  refine x_law_number.trans (fn_go ?_)
  unfold m_law_number
  obtain ⟨g_1, e⟩ := gd_e e
  obtain ⟨g_4, e⟩ := gd_e e
  obtain ⟨r5, b_r5, e⟩ := obind e
  have z6 : (lcM (rng1 (consA (bltM lenF (consA (varM 0) nilA)) nilA)) [3] (one 3) (tstM (opM eqF (opM ixF (varM 1) (varM 3)) (varM 3))) (varM 3)) [some (MV.fls (List.map e_FB up)), some (MV.fls (List.map nV row)), none, none, none] h = ok (List.map nV r5) h := z_lcO (f := nV) (g := nV) (xs := (List.range up.length)) (q_rng (n := up.length) (y_len (f := e_FB) (xs := up) (r_var rfl) rfl) g_1) g_4 (fun _ => rfl)
      (fun x2 b e => by
        obtain ⟨v3, b_v3, e⟩ := obind e
        obtain rfl := some_e e
        exact (r_tst (r_eq (i := v3) (j := x2) (y_ix (f := nV) (xs := row) (i := x2) (r_var rfl) (r_var rfl) rfl b_v3) (r_var rfl))))
      (fun x2 y e => by
        obtain rfl := some_e e
        exact (r_var rfl)) b_r5
  refine W_seq (setS_ok (r_fls z6)) ?_
  obtain ⟨g_14, e⟩ := gd_e e
  obtain ⟨r15, b_r15, e⟩ := obind e
  have z16 : (lcM (seqI (varM 2)) [3] (one 3) yesT (flsM (lcM (seqI (varM 2)) [4] (one 4) yesT (opM ixF (opM ixF (varM 0) (varM 3)) (varM 4))))) [some (MV.fls (List.map e_FB up)), some (MV.fls (List.map nV row)), some (MV.fls (List.map nV r5)), none, none] h = ok (List.map e_FB r15) h := z_lcO (f := nV) (g := e_FB) (xs := r5) (q_fls (r_var rfl)) g_14 (fun _ => rfl)
      (fun x7 b e => by
        obtain rfl := some_e e
        exact rfl)
      (fun x7 y e => by
        obtain ⟨g_11, e⟩ := gd_e e
        obtain ⟨r12, b_r12, e⟩ := obind e
        have z13 : (lcM (seqI (varM 2)) [4] (one 4) yesT (opM ixF (opM ixF (varM 0) (varM 3)) (varM 4))) [some (MV.fls (List.map e_FB up)), some (MV.fls (List.map nV row)), some (MV.fls (List.map nV r5)), some (nV x7), none] h = ok (List.map MV.bl r12) h := z_lcO (f := nV) (g := MV.bl) (xs := r5) (q_fls (r_var rfl)) g_11 (fun _ => rfl)
            (fun y8 b e => by
              obtain rfl := some_e e
              exact rfl)
            (fun y8 y e => by
              obtain ⟨v9, b_v9, e⟩ := obind e
              obtain ⟨v10, b_v10, e⟩ := obind e
              obtain rfl := some_e e
              exact (y_ix (f := MV.bl) (xs := v9) (i := y8) (y_ix (f := e_FB) (xs := up) (i := x7) (r_var rfl) (r_var rfl) rfl b_v9) (r_var rfl) rfl b_v10)) b_r12
        obtain rfl := some_e e
        exact (r_fls z13)) b_r15
  obtain ⟨r17, b_r17, e⟩ := obind e
  have c18 := tt_law_signs (h := h)  b_r17
  refine W_ret (y_sumI (xs := r17) (callM_ok (consA_ok (r_fls z16) r_nil) c18) rfl) ?_
  obtain rfl := some_e e
  exact rfl
def tb1_law_walked (up : (List (List Bool))) (near : (List (List Nat))) (q4 : (((List Int) × Nat × Nat × Nat × Nat × Nat) × (List Nat))) (k5 : Nat) : Option (((List Int) × Nat × Nat × Nat × Nat × Nat) × (List Nat)) :=
  (t_law_draw q4.1 up.length).bind fun r8 =>
  (q4.2[r8.1]?).bind fun v11 =>
  (near[v11]?).bind fun v12 =>
  if (decide (0 < v12.length)) = true then ((t_law_draw r8.2 v12.length).bind fun r13 =>
  (v12[r13.1]?).bind fun v16 =>
  (t_law_fits up q4.2 r8.1 v16).bind fun r17 =>
  if r17 = true then (gd (r8.1 < q4.2.length) <|
  lett ((q4.2.set r8.1 v16) : (List Nat)) fun c21 =>
  some (r13.2, c21)) else (some (r13.2, q4.2))) else (some (r8.2, q4.2))
def t_law_walked (tape : ((List Int) × Nat × Nat × Nat × Nat × Nat)) (up : (List (List Bool))) (near : (List (List Nat))) (row : (List Nat)) (many : Nat) : Option ((List Nat) × ((List Int) × Nat × Nat × Nat × Nat × Nat)) :=
  gd (many ≤ 400000) <|
  (forO (tb1_law_walked up near) (List.range many) (tape, row)).bind fun q22 =>
  some (q22.2, q22.1)
theorem tt_law_walked {h : MH} {tape : ((List Int) × Nat × Nat × Nat × Nat × Nat)} {l0 : Nat} {up : (List (List Bool))} {near : (List (List Nat))} {row : (List Nat)} {many : Nat} {r : ((List Nat) × ((List Int) × Nat × Nat × Nat × Nat × Nat))} (w0 : h[l0]? = some (c_RX6cel_at_val_dig_mix_salFINNNNN tape)) (e : t_law_walked tape up near row many = some r) : f_law_walked [.ref l0, (MV.fls (List.map e_FB up)), (MV.fls (List.map e_FN near)), (MV.fls (List.map nV row)), (nV many)] h = ok (MV.fls (List.map nV r.1)) (h.set l0 (c_RX6cel_at_val_dig_mix_salFINNNNN r.2)) := by
  unfold t_law_walked at e
  obtain ⟨o, eo, h9, e9, fr9, w9_0⟩ : ∃ o, m_law_walked [some (.ref l0), some ((MV.fls (List.map e_FB up))), some ((MV.fls (List.map e_FN near))), some ((MV.fls (List.map nV row))), some ((nV many)), none, none, none, none] h = some o ∧ ∃ h9, defK (some o) = ok (MV.fls (List.map nV r.1)) h9 ∧ Fr h [l0] h9 ∧ h9[l0]? = some (c_RX6cel_at_val_dig_mix_salFINNNNN r.2) := by
    unfold m_law_walked
    have fr0 : Fr h [l0] h := Fr.refl
    obtain ⟨p1, q_p1⟩ : ∃ x : Nat, x = h.length := ⟨_, rfl⟩
    obtain ⟨h2, q_h2⟩ : ∃ x : MH, x = h ++ [(MO.lst (List.map nV row))] := ⟨_, rfl⟩
    have n_p1_0 : l0 ≠ p1 := by rw [q_p1]; exact Nat.ne_of_lt (g_lt w0)
    have w_h2_0 : h2[l0]? = some (c_RX6cel_at_val_dig_mix_salFINNNNN tape) := by rw [q_h2]; exact g_ap w0
    have w_h2_1 : h2[p1]? = some (MO.lst (List.map nV row)) := by rw [q_h2]; exact g_nw q_p1
    have lo_p1 : h.length ≤ p1 := by rw [q_p1]; exact fr0.1
    have fr_h2 : Fr h [l0] h2 := by rw [q_h2]; exact fr0.app
    refine W_seq (setS_ok (y_ref (z_lst (r_var rfl) rfl) q_p1 q_h2)) ?_
    obtain ⟨g_3, e⟩ := gd_e e
    obtain ⟨q22, b_q22, e⟩ := obind e
    refine W_forO (e := nV) (xs := (List.range many)) (f := (tb1_law_walked up near)) (fun (q4 : (((List Int) × Nat × Nat × Nat × Nat × Nat) × (List Nat))) s6 h7 => s6 = [some (.ref l0), some (MV.fls (List.map e_FB up)), some (MV.fls (List.map e_FN near)), some (.ref p1), some (nV many), none, none, none, none] ∧ Fr h [l0] h7 ∧ h7[l0]? = some (c_RX6cel_at_val_dig_mix_salFINNNNN q4.1) ∧ h7[p1]? = some (MO.lst (List.map nV q4.2))) (q_rng (n := many) (r_var rfl) g_3) ⟨rfl, fr_h2, w_h2_0, w_h2_1⟩ b_q22 (fun q4 k5 s h7 b ra e => ?_) ?_
    · obtain ⟨rfl, fr_h7, w_h7_0, w_h7_1⟩ := ra
      unfold tb1_law_walked at e
      refine W_turn rfl ?_
      unfold b1_law_walked
      refine W_wip' ?_
      obtain ⟨r8, b_r8, e⟩ := obind e
      have c9 := tt_law_draw (h := h7) w_h7_0 b_r8
      obtain ⟨h10, q_h10⟩ : ∃ x : MH, x = h7.set l0 (c_RX6cel_at_val_dig_mix_salFINNNNN r8.2) := ⟨_, rfl⟩
      have w_h10_0 : h10[l0]? = some (c_RX6cel_at_val_dig_mix_salFINNNNN r8.2) := by rw [q_h10]; exact g_eq w_h7_0
      have w_h10_1 : h10[p1]? = some (MO.lst (List.map nV q4.2)) := by rw [q_h10]; exact g_ne w_h7_1 n_p1_0
      have fr_h10 : Fr h [l0] h10 := by rw [q_h10]; exact fr_h7.inn (by simp)
      rw [← q_h10] at c9
      refine W_seq (setS_ok (callM_ok (consA_ok (r_var rfl) (consA_ok (y_len (f := e_FB) (xs := up) (r_var rfl) rfl) r_nil)) c9)) ?_
      obtain ⟨v11, b_v11, e⟩ := obind e
      obtain ⟨v12, b_v12, e⟩ := obind e
      refine W_seq (setS_ok (y_ix (f := e_FN) (xs := near) (i := v11) (r_var rfl) (y_ix (f := nV) (xs := q4.2) (i := r8.1) (r_var rfl) (r_var rfl) (sq_ref w_h10_1) b_v11) rfl b_v12)) ?_
      rcases ite_e e with ⟨hc, e⟩ | ⟨hc, e⟩
      · refine W_t (r_tst (r_gt (i := v12.length) (j := 0) (y_len (f := nV) (xs := v12) (r_var rfl) rfl) rfl)) hc ?_
        obtain ⟨r13, b_r13, e⟩ := obind e
        have c14 := tt_law_draw (h := h10) w_h10_0 b_r13
        obtain ⟨h15, q_h15⟩ : ∃ x : MH, x = h10.set l0 (c_RX6cel_at_val_dig_mix_salFINNNNN r13.2) := ⟨_, rfl⟩
        have w_h15_0 : h15[l0]? = some (c_RX6cel_at_val_dig_mix_salFINNNNN r13.2) := by rw [q_h15]; exact g_eq w_h10_0
        have w_h15_1 : h15[p1]? = some (MO.lst (List.map nV q4.2)) := by rw [q_h15]; exact g_ne w_h10_1 n_p1_0
        have fr_h15 : Fr h [l0] h15 := by rw [q_h15]; exact fr_h10.inn (by simp)
        rw [← q_h15] at c14
        obtain ⟨v16, b_v16, e⟩ := obind e
        refine W_seq (setS_ok (y_ix (f := nV) (xs := v12) (i := r13.1) (r_var rfl) (callM_ok (consA_ok (r_var rfl) (consA_ok (y_len (f := nV) (xs := v12) (r_var rfl) rfl) r_nil)) c14) rfl b_v16)) ?_
        obtain ⟨r17, b_r17, e⟩ := obind e
        have c18 := tt_law_fits (h := h15) w_h15_1 b_r17
        rcases ite_e e with ⟨hc, e⟩ | ⟨hc, e⟩
        · refine W_t (r_tru (callM_ok (consA_ok (r_var rfl) (consA_ok (r_var rfl) (consA_ok (r_var rfl) (consA_ok (r_var rfl) r_nil)))) c18)) hc ?_
          refine W_lst ?_
          obtain ⟨g_19, e⟩ := gd_e e
          obtain ⟨c21, h_c21, e⟩ := lett_e e
          obtain ⟨h20, q_h20⟩ : ∃ x : MH, x = h15.set p1 (MO.lst (List.map nV c21)) := ⟨_, rfl⟩
          have w_h20_0 : h20[l0]? = some (c_RX6cel_at_val_dig_mix_salFINNNNN r13.2) := by rw [q_h20]; exact g_ne w_h15_0 (Ne.symm n_p1_0)
          have w_h20_1 : h20[p1]? = some (MO.lst (List.map nV c21)) := by rw [q_h20]; exact g_eq w_h15_1
          have fr_h20 : Fr h [l0] h20 := by rw [q_h20]; exact fr_h15.out lo_p1
          refine W_seq (y_put (f := nV) (xs := q4.2) (i := r8.1) (x := v16) (r_var rfl) (r_var rfl) (r_var rfl) w_h15_1 g_19 (Eq.trans q_h20 (congrArg (fun z => List.set h15 p1 (MO.lst (List.map nV z))) h_c21))) ?_
          refine W_nil ?_
          obtain rfl := some_e e
          exact ⟨_, rfl, _, _, .inl rfl, ⟨rfl, fr_h20, w_h20_0, w_h20_1⟩⟩
        · refine W_f (r_tru (callM_ok (consA_ok (r_var rfl) (consA_ok (r_var rfl) (consA_ok (r_var rfl) (consA_ok (r_var rfl) r_nil)))) c18)) hc ?_
          refine W_nil ?_
          obtain rfl := some_e e
          exact ⟨_, rfl, _, _, .inl rfl, ⟨rfl, fr_h15, w_h15_0, w_h15_1⟩⟩
      · refine W_f (r_tst (r_gt (i := v12.length) (j := 0) (y_len (f := nV) (xs := v12) (r_var rfl) rfl) rfl)) hc ?_
        refine W_nil ?_
        obtain rfl := some_e e
        exact ⟨_, rfl, _, _, .inl rfl, ⟨rfl, fr_h10, w_h10_0, w_h10_1⟩⟩
    rintro _ h23 ⟨rfl, fr_h23, w_h23_0, w_h23_1⟩
    obtain ⟨h24, q_h24⟩ : ∃ x : MH, x = h23.set p1 MO.dead := ⟨_, rfl⟩
    have w_h24_0 : h24[l0]? = some (c_RX6cel_at_val_dig_mix_salFINNNNN q22.1) := by rw [q_h24]; exact g_ne w_h23_0 (Ne.symm n_p1_0)
    have fr_h24 : Fr h [l0] h24 := by rw [q_h24]; exact fr_h23.out lo_p1
    refine W_ret (y_frz (r_var rfl) w_h23_1 (all_flat (f := nV) (fun _ => rfl)) q_h24) ?_
    obtain rfl := some_e e
    exact ⟨_, rfl, fr_h24, w_h24_0⟩
  have ef : defM 5 9 m_law_walked [.ref l0, (MV.fls (List.map e_FB up)), (MV.fls (List.map e_FN near)), (MV.fls (List.map nV row)), (nV many)] h = ok (MV.fls (List.map nV r.1)) h9 := x_law_walked.trans (by rw [eo]; exact e9)
  have := cut_fr ef fr9 ((fun (q : (List Nat)) => clo_F (f := nV) (fun _ => rfl)) r.1) (fun l hl => by rw [List.mem_singleton.mp hl]; exact ⟨_, w9_0, (and_i ((fun (q : (List Int)) => clo_F (f := MV.int) (fun _ => rfl)) r.2.1) (and_i ((fun _ => rfl) r.2.2.1) (and_i ((fun _ => rfl) r.2.2.2.1) (and_i ((fun _ => rfl) r.2.2.2.2.1) (and_i ((fun _ => rfl) r.2.2.2.2.2.1) (and_i ((fun _ => rfl) r.2.2.2.2.2.2) (rfl)))))))⟩)
  rwa [fr9.to1 w9_0] at this
def tb1_law (j8 : (List (List Bool))) (r12 : (List (List Nat))) (r14 : ((List Nat) × ((List Int) × Nat × Nat × Nat × Nat × Nat))) (r17 : (Nat × (List (Nat × Nat)))) (r26 : Int) (q28 : ((List Nat) × ((List Int) × Nat × Nat × Nat × Nat × Nat))) (part29 : Nat) : Option (Lp ((List Nat) × ((List Int) × Nat × Nat × Nat × Nat × Nat)) Bool) :=
  (t_law_named r14.1 q28.1).bind fun r32 =>
  gd (j8.length ≤ 400000) <|
  gd ((List.range j8.length).length ≤ 400000) <|
  (lcO (fun x35 : Nat => (q28.1[x35]?).bind fun v36 => some (decide (v36 = x35))) (fun x35 : Nat => ((r14.1[x35]?).bind fun v37 => some v37 : Option Nat)) (List.range j8.length)).bind fun r39 =>
  lett ((srtN r39) : (List Nat)) fun points41 =>
  (t_lefschetz r17 r32).bind fun r42 =>
  (same_t (PV.int r42) (PV.int r26)).bind fun r44 =>
  (if (!r44) = true then (some true) else ((t_fixed_points r17 r32).bind fun r46 => (same_t (PV.tup (r46.map (fun (q : Nat) => (PV.int ((q : Nat) : Int))))) (PV.tup (points41.map (fun (q : Nat) => (PV.int ((q : Nat) : Int)))))).bind fun r48 => some (!r48))).bind fun c50 =>
  if c50 = true then (some (.rt false)) else ((t_law_draw q28.2 10).bind fun r52 =>
  (t_law_walked r52.2 j8 r12 q28.1 (1 + r52.1)).bind fun r55 =>
  some (.nx (r55.1, r55.2)))
def tb2_law (j8 : (List (List Bool))) (r12 : (List (List Nat))) (r14 : ((List Nat) × ((List Int) × Nat × Nat × Nat × Nat × Nat))) (r17 : (Nat × (List (Nat × Nat)))) (q19 : ((List Int) × Nat × Nat × Nat × Nat × Nat)) (k20 : Nat) : Option (Lp ((List Int) × Nat × Nat × Nat × Nat × Nat) Bool) :=
  (t_law_map q19 j8).bind fun r23 =>
  (t_law_number j8 r23.1).bind fun r26 =>
  lpB (forR (tb1_law j8 r12 r14 r17 r26) (List.range 4) (r23.1, r23.2)) (fun q58 =>
  (t_law_named r14.1 q58.1).bind fun r60 =>
  gd (j8.length ≤ 400000) <|
  gd ((List.range j8.length).length ≤ 400000) <|
  (lcO (fun x63 : Nat => (q58.1[x63]?).bind fun v64 => some (decide (v64 = x63))) (fun x63 : Nat => ((r14.1[x63]?).bind fun v65 => some v65 : Option Nat)) (List.range j8.length)).bind fun r67 =>
  lett ((srtN r67) : (List Nat)) fun points69 =>
  (t_lefschetz r17 r60).bind fun r70 =>
  (same_t (PV.int r70) (PV.int r26)).bind fun r72 =>
  if (!r72) = true then (some (.rt false)) else ((t_fixed_points r17 r60).bind fun r74 =>
  (same_t (PV.tup (r74.map (fun (q : Nat) => (PV.int ((q : Nat) : Int))))) (PV.tup (points69.map (fun (q : Nat) => (PV.int ((q : Nat) : Int)))))).bind fun r76 =>
  if (!r76) = true then (some (.rt false)) else (some (.nx q58.2)))) (fun (r78 : Bool) => some (.rt r78))
def t_law (script : (List Int)) : Option Bool :=
  (t_law_tape script).bind fun r1 =>
  (t_law_drawn r1 8).bind fun r5 =>
  (if (decide (r5.1.length = 0)) = true then (lett ([[false]] : (List (List Bool))) fun up11 =>
  some up11) else (some r5.1) : Option (List (List Bool))).bind fun j8 =>
  (t_law_covers j8).bind fun r12 =>
  (t_law_shuffled r5.2 j8.length).bind fun r14 =>
  (t_law_told j8 r14.1).bind fun r17 =>
  lpB (forR (tb2_law j8 r12 r14 r17) (List.range 2) r14.2) (fun q79 =>
  some true) (fun (r81 : Bool) => some r81)
theorem tt_law {h : MH} {script : (List Int)} {r : Bool}  (e : t_law script = some r) : ∃ h9, f_law [(MV.frz (List.map MV.int script))] h = ok (MV.bl r) h9 ∧ Fr h [] h9 := by
  unfold t_law at e
  obtain ⟨o, eo, h9, e9, fr9⟩ : ∃ o, m_law [some ((MV.frz (List.map MV.int script))), none, none, none, none, none, none, none, none, none, none, none, none] h = some o ∧ ∃ h9, defK (some o) = ok (MV.bl r) h9 ∧ Fr h [] h9 := by
    unfold m_law
    have fr0 : Fr h [] h := Fr.refl
    obtain ⟨r1, b_r1, e⟩ := obind e
    obtain ⟨p3, h4, c2, fx_h4, lx_p3, w_h4_0⟩ := tt_law_tape (h := h)  b_r1
    have lo_p3 : h.length ≤ p3 := Nat.le_trans fr0.1 lx_p3
    have fr_h4 : Fr h [] h4 := fr0.tr0 fx_h4
    refine W_seq (setS_ok (callM_ok (consA_ok (r_var rfl) r_nil) c2)) ?_
    obtain ⟨r5, b_r5, e⟩ := obind e
    have c6 := tt_law_drawn (h := h4) w_h4_0 b_r5
    obtain ⟨h7, q_h7⟩ : ∃ x : MH, x = h4.set p3 (c_RX6cel_at_val_dig_mix_salFINNNNN r5.2) := ⟨_, rfl⟩
    have w_h7_0 : h7[p3]? = some (c_RX6cel_at_val_dig_mix_salFINNNNN r5.2) := by rw [q_h7]; exact g_eq w_h4_0
    have fr_h7 : Fr h [] h7 := by rw [q_h7]; exact fr_h4.out lo_p3
    rw [← q_h7] at c6
    refine W_seq (setS_ok (callM_ok (consA_ok (r_var rfl) (consA_ok rfl r_nil)) c6)) ?_
    obtain ⟨j8, b_j8, e⟩ := obind e
    refine W_join (Q := fun s9 h10 => s9 = [some (MV.frz (List.map MV.int script)), some (.ref p3), some (MV.fls (List.map e_FB j8)), none, none, none, none, none, none, none, none, none, none] ∧ h7 = h10) ?_ ?_
    · rcases ite_e b_j8 with ⟨hc, e⟩ | ⟨hc, e⟩
      · refine W_t (r_tst (r_eq (i := r5.1.length) (j := 0) (y_len (f := e_FB) (xs := r5.1) (r_var rfl) rfl) rfl)) hc ?_
        refine W_lst ?_
        obtain ⟨up11, h_up11, e⟩ := lett_e e
        refine W_seq (setS_ok (ok_lt (f := e_FFB) h_up11 (r_fls (r_lst (consA_ok (r_fls (r_lst (consA_ok rfl r_nil) (by show 1 ≤ 400000; omega))) r_nil) (by show 1 ≤ 400000; omega))))) ?_
        refine W_nil ?_
        obtain rfl := some_e e
        exact ⟨_, _, rfl, rfl, rfl⟩
      · refine W_f (r_tst (r_eq (i := r5.1.length) (j := 0) (y_len (f := e_FB) (xs := r5.1) (r_var rfl) rfl) rfl)) hc ?_
        refine W_nil ?_
        obtain rfl := some_e e
        exact ⟨_, _, rfl, rfl, rfl⟩
    rintro _ _ ⟨rfl, rfl⟩
    obtain ⟨r12, b_r12, e⟩ := obind e
    have c13 := tt_law_covers (h := h7)  b_r12
    refine W_seq (setS_ok (callM_ok (consA_ok (r_var rfl) r_nil) c13)) ?_
    obtain ⟨r14, b_r14, e⟩ := obind e
    have c15 := tt_law_shuffled (h := h7) w_h7_0 b_r14
    obtain ⟨h16, q_h16⟩ : ∃ x : MH, x = h7.set p3 (c_RX6cel_at_val_dig_mix_salFINNNNN r14.2) := ⟨_, rfl⟩
    have w_h16_0 : h16[p3]? = some (c_RX6cel_at_val_dig_mix_salFINNNNN r14.2) := by rw [q_h16]; exact g_eq w_h7_0
    have fr_h16 : Fr h [] h16 := by rw [q_h16]; exact fr_h7.out lo_p3
    rw [← q_h16] at c15
    refine W_seq (setS_ok (callM_ok (consA_ok (r_var rfl) (consA_ok (y_len (f := e_FB) (xs := j8) (r_var rfl) rfl) r_nil)) c15)) ?_
    obtain ⟨r17, b_r17, e⟩ := obind e
    have c18 := tt_law_told (h := h16)  b_r17
    refine W_seq (setS_ok (callM_ok (consA_ok (r_var rfl) (consA_ok (r_var rfl) r_nil)) c18)) ?_
    refine W_joinB e (fun (q19 : ((List Int) × Nat × Nat × Nat × Nat × Nat)) s21 h22 => s21 = [some (MV.frz (List.map MV.int script)), some (.ref p3), some (MV.fls (List.map e_FB j8)), some (MV.fls (List.map e_FN r12)), some (MV.fls (List.map nV r14.1)), some (MV.tup [(nV r17.1), (MV.tup (List.map prV r17.2))]), none, none, none, none, none, none, none] ∧ Fr h [] h22 ∧ h22[p3]? = some (c_RX6cel_at_val_dig_mix_salFINNNNN q19)) (fun (r : Bool) v h9 => v = (MV.bl r) ∧ Fr h [] h9) (fun o e => W_jfor (e := nV) (xs := (List.range 2)) (f := (tb2_law j8 r12 r14 r17)) (fun (q19 : ((List Int) × Nat × Nat × Nat × Nat × Nat)) s21 h22 => s21 = [some (MV.frz (List.map MV.int script)), some (.ref p3), some (MV.fls (List.map e_FB j8)), some (MV.fls (List.map e_FN r12)), some (MV.fls (List.map nV r14.1)), some (MV.tup [(nV r17.1), (MV.tup (List.map prV r17.2))]), none, none, none, none, none, none, none] ∧ Fr h [] h22 ∧ h22[p3]? = some (c_RX6cel_at_val_dig_mix_salFINNNNN q19)) (fun (r : Bool) v h9 => v = (MV.bl r) ∧ Fr h [] h9) (q_rng (n := 2) rfl (by omega)) ⟨rfl, fr_h16, w_h16_0⟩ e (fun q19 k20 s h22 o ra e => ?_)) ?_ ?_
    · obtain ⟨rfl, fr_h22, w_h22_0⟩ := ra
      unfold tb2_law at e
      refine W_turn rfl ?_
      unfold b2_law
      refine W_wip' ?_
      obtain ⟨r23, b_r23, e⟩ := obind e
      have c24 := tt_law_map (h := h22) w_h22_0 b_r23
      obtain ⟨h25, q_h25⟩ : ∃ x : MH, x = h22.set p3 (c_RX6cel_at_val_dig_mix_salFINNNNN r23.2) := ⟨_, rfl⟩
      have w_h25_0 : h25[p3]? = some (c_RX6cel_at_val_dig_mix_salFINNNNN r23.2) := by rw [q_h25]; exact g_eq w_h22_0
      have fr_h25 : Fr h [] h25 := by rw [q_h25]; exact fr_h22.out lo_p3
      rw [← q_h25] at c24
      refine W_seq (setS_ok (callM_ok (consA_ok (r_var rfl) (consA_ok (r_var rfl) r_nil)) c24)) ?_
      obtain ⟨r26, b_r26, e⟩ := obind e
      have c27 := tt_law_number (h := h25)  b_r26
      refine W_seq (setS_ok (callM_ok (consA_ok (r_var rfl) (consA_ok (r_var rfl) r_nil)) c27)) ?_
      refine W_joinB e (fun (q28 : ((List Nat) × ((List Int) × Nat × Nat × Nat × Nat × Nat))) s30 h31 => s30 = [some (MV.frz (List.map MV.int script)), some (.ref p3), some (MV.fls (List.map e_FB j8)), some (MV.fls (List.map e_FN r12)), some (MV.fls (List.map nV r14.1)), some (MV.tup [(nV r17.1), (MV.tup (List.map prV r17.2))]), some (nV k20), some (MV.fls (List.map nV q28.1)), some (MV.int r26), none, none, none, none] ∧ Fr h [] h31 ∧ h31[p3]? = some (c_RX6cel_at_val_dig_mix_salFINNNNN q28.2)) (fun (r : Bool) v h9 => v = (MV.bl r) ∧ Fr h [] h9) (fun o e => W_jfor (e := nV) (xs := (List.range 4)) (f := (tb1_law j8 r12 r14 r17 r26)) (fun (q28 : ((List Nat) × ((List Int) × Nat × Nat × Nat × Nat × Nat))) s30 h31 => s30 = [some (MV.frz (List.map MV.int script)), some (.ref p3), some (MV.fls (List.map e_FB j8)), some (MV.fls (List.map e_FN r12)), some (MV.fls (List.map nV r14.1)), some (MV.tup [(nV r17.1), (MV.tup (List.map prV r17.2))]), some (nV k20), some (MV.fls (List.map nV q28.1)), some (MV.int r26), none, none, none, none] ∧ Fr h [] h31 ∧ h31[p3]? = some (c_RX6cel_at_val_dig_mix_salFINNNNN q28.2)) (fun (r : Bool) v h9 => v = (MV.bl r) ∧ Fr h [] h9) (q_rng (n := 4) rfl (by omega)) ⟨rfl, fr_h25, w_h25_0⟩ e (fun q28 part29 s h31 o ra e => ?_)) ?_ ?_
      · obtain ⟨rfl, fr_h31, w_h31_0⟩ := ra
        unfold tb1_law at e
        refine W_turn rfl ?_
        unfold b1_law
        refine W_wip' ?_
        obtain ⟨r32, b_r32, e⟩ := obind e
        have c33 := tt_law_named (h := h31)  b_r32
        refine W_seq (setS_ok (callM_ok (consA_ok (r_var rfl) (consA_ok (r_var rfl) r_nil)) c33)) ?_
        obtain ⟨g_34, e⟩ := gd_e e
        obtain ⟨g_38, e⟩ := gd_e e
        obtain ⟨r39, b_r39, e⟩ := obind e
        have z40 : (lcM (rng1 (consA (bltM lenF (consA (varM 2) nilA)) nilA)) [12] (one 12) (tstM (opM eqF (opM ixF (varM 7) (varM 12)) (varM 12))) (opM ixF (varM 4) (varM 12))) [some (MV.frz (List.map MV.int script)), some (.ref p3), some (MV.fls (List.map e_FB j8)), some (MV.fls (List.map e_FN r12)), some (MV.fls (List.map nV r14.1)), some (MV.tup [(nV r17.1), (MV.tup (List.map prV r17.2))]), some (nV k20), some (MV.fls (List.map nV q28.1)), some (MV.int r26), some (nV part29), some (MV.tup (List.map nV r32)), none, none] h31 = ok (List.map nV r39) h31 := z_lcO (f := nV) (g := nV) (xs := (List.range j8.length)) (q_rng (n := j8.length) (y_len (f := e_FB) (xs := j8) (r_var rfl) rfl) g_34) g_38 (fun _ => rfl)
            (fun x35 b e => by
              obtain ⟨v36, b_v36, e⟩ := obind e
              obtain rfl := some_e e
              exact (r_tst (r_eq (i := v36) (j := x35) (y_ix (f := nV) (xs := q28.1) (i := x35) (r_var rfl) (r_var rfl) rfl b_v36) (r_var rfl))))
            (fun x35 y e => by
              obtain ⟨v37, b_v37, e⟩ := obind e
              obtain rfl := some_e e
              exact (y_ix (f := nV) (xs := r14.1) (i := x35) (r_var rfl) (r_var rfl) rfl b_v37)) b_r39
        obtain ⟨points41, h_points41, e⟩ := lett_e e
        refine W_seq (setS_ok (ok_lt (f := e_VN) h_points41 (r_tupf (r_fls (z_srtN (xs := r39) (r_fls z40) rfl))))) ?_
        obtain ⟨r42, b_r42, e⟩ := obind e
        have c43 := tt_lefschetz (h := h31)  b_r42
        obtain ⟨r44, b_r44, e⟩ := obind e
        have c45 := same_tt (h := h31)  b_r44
        obtain ⟨c50, b_c50, e⟩ := obind e
        have a51 : (orT (notT (truM (callM f_law_same [] (consA (callM f_lefschetz [] (consA (varM 5) (consA (varM 10) nilA))) (consA (varM 8) nilA))))) (notT (truM (callM f_law_same [] (consA (callM f_fixed_points [] (consA (varM 5) (consA (varM 10) nilA))) (consA (varM 11) nilA)))))) [some (MV.frz (List.map MV.int script)), some (.ref p3), some (MV.fls (List.map e_FB j8)), some (MV.fls (List.map e_FN r12)), some (MV.fls (List.map nV r14.1)), some (MV.tup [(nV r17.1), (MV.tup (List.map prV r17.2))]), some (nV k20), some (MV.fls (List.map nV q28.1)), some (MV.int r26), some (nV part29), some (MV.tup (List.map nV r32)), some (MV.tup (List.map nV points41)), none] h31 = ok c50 h31 := by
          rcases ite_e b_c50 with ⟨hc, e⟩ | ⟨hc, e⟩
          · skip
            obtain rfl := some_e e
            exact y_orTt (r_not (r_tru (callM_ok (consA_ok (callM_ok (consA_ok (r_var rfl) (consA_ok (r_var rfl) r_nil)) c43) (consA_ok (r_var rfl) r_nil)) c45))) hc
          · skip
            obtain ⟨r46, b_r46, e⟩ := obind e
            have c47 := tt_fixed_points (h := h31)  b_r46
            obtain ⟨r48, b_r48, e⟩ := obind e
            have c49 := same_tt (h := h31)  b_r48
            obtain rfl := some_e e
            exact y_orTf (r_not (r_tru (callM_ok (consA_ok (callM_ok (consA_ok (r_var rfl) (consA_ok (r_var rfl) r_nil)) c43) (consA_ok (r_var rfl) r_nil)) c45))) hc (r_not (r_tru (callM_ok (consA_ok (ok_eq (callM_ok (consA_ok (r_var rfl) (consA_ok (r_var rfl) r_nil)) c47) (pv_V (f := nV) (xs := r46) (fun (q : Nat) => rfl))) (consA_ok (ok_eq (r_var rfl) (pv_V (f := nV) (xs := points41) (fun (q : Nat) => rfl))) r_nil)) c49)))
        rcases ite_e e with ⟨hc, e⟩ | ⟨hc, e⟩
        · refine W_st a51 hc ?_
          refine W_sret rfl ?_
          obtain rfl := some_e e
          exact ⟨_, rfl, _, _, rfl, ⟨rfl, fr_h31⟩⟩
        · refine W_sf a51 hc ?_
          refine W_nils ?_
          refine W_lst ?_
          obtain ⟨r52, b_r52, e⟩ := obind e
          have c53 := tt_law_draw (h := h31) w_h31_0 b_r52
          obtain ⟨h54, q_h54⟩ : ∃ x : MH, x = h31.set p3 (c_RX6cel_at_val_dig_mix_salFINNNNN r52.2) := ⟨_, rfl⟩
          have w_h54_0 : h54[p3]? = some (c_RX6cel_at_val_dig_mix_salFINNNNN r52.2) := by rw [q_h54]; exact g_eq w_h31_0
          have fr_h54 : Fr h [] h54 := by rw [q_h54]; exact fr_h31.out lo_p3
          rw [← q_h54] at c53
          obtain ⟨r55, b_r55, e⟩ := obind e
          have c56 := tt_law_walked (h := h54) w_h54_0 b_r55
          obtain ⟨h57, q_h57⟩ : ∃ x : MH, x = h54.set p3 (c_RX6cel_at_val_dig_mix_salFINNNNN r55.2) := ⟨_, rfl⟩
          have w_h57_0 : h57[p3]? = some (c_RX6cel_at_val_dig_mix_salFINNNNN r55.2) := by rw [q_h57]; exact g_eq w_h54_0
          have fr_h57 : Fr h [] h57 := by rw [q_h57]; exact fr_h54.out lo_p3
          rw [← q_h57] at c56
          refine W_seq (setS_ok (callM_ok (consA_ok (r_var rfl) (consA_ok (r_var rfl) (consA_ok (r_var rfl) (consA_ok (r_var rfl) (consA_ok (r_add (i := 1) (j := r52.1) rfl (callM_ok (consA_ok (r_var rfl) (consA_ok rfl r_nil)) c53)) r_nil))))) c56)) ?_
          refine W_nil ?_
          obtain rfl := some_e e
          exact ⟨_, rfl, _, _, .inl rfl, ⟨rfl, fr_h57, w_h57_0⟩⟩
      · rintro q58 _ h59 e ⟨rfl, fr_h59, w_h59_0⟩
        obtain ⟨r60, b_r60, e⟩ := obind e
        have c61 := tt_law_named (h := h59)  b_r60
        refine W_seq (setS_ok (callM_ok (consA_ok (r_var rfl) (consA_ok (r_var rfl) r_nil)) c61)) ?_
        obtain ⟨g_62, e⟩ := gd_e e
        obtain ⟨g_66, e⟩ := gd_e e
        obtain ⟨r67, b_r67, e⟩ := obind e
        have z68 : (lcM (rng1 (consA (bltM lenF (consA (varM 2) nilA)) nilA)) [12] (one 12) (tstM (opM eqF (opM ixF (varM 7) (varM 12)) (varM 12))) (opM ixF (varM 4) (varM 12))) [some (MV.frz (List.map MV.int script)), some (.ref p3), some (MV.fls (List.map e_FB j8)), some (MV.fls (List.map e_FN r12)), some (MV.fls (List.map nV r14.1)), some (MV.tup [(nV r17.1), (MV.tup (List.map prV r17.2))]), some (nV k20), some (MV.fls (List.map nV q58.1)), some (MV.int r26), none, some (MV.tup (List.map nV r60)), none, none] h59 = ok (List.map nV r67) h59 := z_lcO (f := nV) (g := nV) (xs := (List.range j8.length)) (q_rng (n := j8.length) (y_len (f := e_FB) (xs := j8) (r_var rfl) rfl) g_62) g_66 (fun _ => rfl)
            (fun x63 b e => by
              obtain ⟨v64, b_v64, e⟩ := obind e
              obtain rfl := some_e e
              exact (r_tst (r_eq (i := v64) (j := x63) (y_ix (f := nV) (xs := q58.1) (i := x63) (r_var rfl) (r_var rfl) rfl b_v64) (r_var rfl))))
            (fun x63 y e => by
              obtain ⟨v65, b_v65, e⟩ := obind e
              obtain rfl := some_e e
              exact (y_ix (f := nV) (xs := r14.1) (i := x63) (r_var rfl) (r_var rfl) rfl b_v65)) b_r67
        obtain ⟨points69, h_points69, e⟩ := lett_e e
        refine W_seq (setS_ok (ok_lt (f := e_VN) h_points69 (r_tupf (r_fls (z_srtN (xs := r67) (r_fls z68) rfl))))) ?_
        obtain ⟨r70, b_r70, e⟩ := obind e
        have c71 := tt_lefschetz (h := h59)  b_r70
        obtain ⟨r72, b_r72, e⟩ := obind e
        have c73 := same_tt (h := h59)  b_r72
        rcases ite_e e with ⟨hc, e⟩ | ⟨hc, e⟩
        · refine W_st (r_not (r_tru (callM_ok (consA_ok (callKM_ok r_nil (consA_ok (r_var rfl) (consA_ok (r_var rfl) r_nil)) ⟨rfl, rfl⟩ c71) (consA_ok (r_var rfl) r_nil)) c73))) hc ?_
          refine W_sret rfl ?_
          obtain rfl := some_e e
          exact ⟨_, rfl, _, _, rfl, ⟨rfl, fr_h59⟩⟩
        · refine W_sf (r_not (r_tru (callM_ok (consA_ok (callKM_ok r_nil (consA_ok (r_var rfl) (consA_ok (r_var rfl) r_nil)) ⟨rfl, rfl⟩ c71) (consA_ok (r_var rfl) r_nil)) c73))) hc ?_
          refine W_nils ?_
          obtain ⟨r74, b_r74, e⟩ := obind e
          have c75 := tt_fixed_points (h := h59)  b_r74
          obtain ⟨r76, b_r76, e⟩ := obind e
          have c77 := same_tt (h := h59)  b_r76
          rcases ite_e e with ⟨hc, e⟩ | ⟨hc, e⟩
          · refine W_t (r_not (r_tru (callM_ok (consA_ok (ok_eq (callKM_ok r_nil (consA_ok (r_var rfl) (consA_ok (r_var rfl) r_nil)) ⟨rfl, rfl⟩ c75) (pv_V (f := nV) (xs := r74) (fun (q : Nat) => rfl))) (consA_ok (ok_eq (r_var rfl) (pv_V (f := nV) (xs := points69) (fun (q : Nat) => rfl))) r_nil)) c77))) hc ?_
            refine W_ret rfl ?_
            obtain rfl := some_e e
            exact ⟨_, rfl, _, _, rfl, ⟨rfl, fr_h59⟩⟩
          · refine W_f (r_not (r_tru (callM_ok (consA_ok (ok_eq (callKM_ok r_nil (consA_ok (r_var rfl) (consA_ok (r_var rfl) r_nil)) ⟨rfl, rfl⟩ c75) (pv_V (f := nV) (xs := r74) (fun (q : Nat) => rfl))) (consA_ok (ok_eq (r_var rfl) (pv_V (f := nV) (xs := points69) (fun (q : Nat) => rfl))) r_nil)) c77))) hc ?_
            refine W_nil ?_
            obtain rfl := some_e e
            exact ⟨_, rfl, _, _, .inl rfl, ⟨rfl, fr_h59, w_h59_0⟩⟩
      · intro r78 v2 h2 e
        intro rr
        obtain rfl := some_e e
        exact ⟨_, rfl, _, _, rfl, rr⟩
    · rintro q79 _ h80 e ⟨rfl, fr_h80, w_h80_0⟩
      refine W_ret rfl ?_
      obtain rfl := some_e e
      exact ⟨_, rfl, fr_h80⟩
    · intro r81 v2 h2 e
      rintro ⟨rfl, fr9⟩
      obtain rfl := some_e e
      exact ⟨_, rfl, fr9⟩
  exact ⟨h9, x_law.trans (by rw [eo]; exact e9), fr9⟩
end
end Mi.k59
set_option simprocs true
set_option maxHeartbeats 2000000
namespace Mi.ml
open PySem L2
theorem sub_len {α : Type} [DecidableEq α] : ∀ {l m : List α}, l.Nodup → (∀ x ∈ l, x ∈ m) → l.length ≤ m.length
  | [], _, _, _ => Nat.zero_le _
  | x :: l, m, nd, hs => by
    obtain ⟨n1, n2⟩ := List.nodup_cons.mp nd
    have hx := hs x (List.mem_cons_self ..)
    have := sub_len (l := l) (m := m.erase x) n2 fun y hy => (List.mem_erase_of_ne (fun z => n1 (by rw [← z]; exact hy))).mpr (hs y (List.mem_cons_of_mem _ hy))
    rw [List.length_erase_of_mem hx] at this
    have := List.length_pos_of_mem hx
    rw [List.length_cons]
    omega
end Mi.ml
set_option simprocs false
set_option maxHeartbeats 2000000
namespace Mi.k59
open PySem L2
abbrev TP := List Int × Nat × Nat × Nat × Nat × Nat
theorem tape_ok (xs : List Int) : ∃ st, t_law_tape xs = some st := by
  unfold t_law_tape
  rw [lett_is]
  obtain ⟨b, e, _⟩ := forO_mem (f := tb1_law_tape) (fun _ => True) (xs := xs) (a0 := 11 + xs.length) trivial fun x _ a _ => by
    unfold tb1_law_tape
    rw [lett_is]
    exact ⟨_, rfl, trivial⟩
  rw [e, Option.bind_some, lett_is]
  exact ⟨_, rfl⟩
theorem load_ok (st : TP) (h : st.2.1 < st.1.length) : ∃ st', t_law_load st = some st' := by
  unfold t_law_load
  rw [List.getElem?_eq_getElem h, Option.bind_some, lett_is]
  split
  · rw [lett_is, lett_is]
    exact ⟨_, rfl⟩
  · rw [lett_is, lett_is]
    exact ⟨_, rfl⟩
theorem forR_any {σ ρ α : Type} {f : σ → α → Option (Lp σ ρ)} (R : ρ → Prop) : ∀ {xs : List α} {a0 : σ}, (∀ x ∈ xs, ∀ a, ∃ o, f a x = some o ∧ match o with | .rt r => R r | _ => True) → (∃ b, forR f xs a0 = some (.nx b)) ∨ ∃ r, forR f xs a0 = some (.rt r) ∧ R r
  | [], a0, _ => .inl ⟨a0, rfl⟩
  | x :: xs, a0, h => by
    obtain ⟨o, e, q⟩ := h x (List.mem_cons_self ..) a0
    unfold forR
    rw [e, Option.bind_some]
    cases o with
    | nx b => exact forR_any R fun y hy => h y (List.mem_cons_of_mem _ hy)
    | bk b => exact .inl ⟨b, rfl⟩
    | rt r => exact .inr ⟨r, rfl, q⟩
theorem draw_ok (st : TP) {m : Nat} (h1 : m < 1000000000) : ∃ d st', t_law_draw st m = some (d, st') ∧ (d = 0 ∨ d < m) := by
  unfold t_law_draw
  by_cases c : m < 2
  · rw [if_pos (decide_eq_true c)]
    exact ⟨_, _, rfl, .inl rfl⟩
  rw [if_neg (by rw [decide_eq_false c]; decide)]
  have h0 : 0 < m := by omega
  have lp := forR_any (f := tb1_law_draw m) (xs := List.range 64) (a0 := st) (fun r => r.1 < m) fun x _ a => by
    unfold tb1_law_draw
    by_cases c1 : ((decide (0 < a.2.2.2.1)) && (decide (1 < a.2.2.1))) = true
    · rw [if_pos c1, gd_ok h0, lett_is, gd_ok (Nat.succ_le_of_lt (of_decide_eq_true (Bool.and_eq_true_iff.mp c1).1)), lett_is, gd_ok ⟨h0, h1⟩, lett_is]
      exact ⟨_, rfl, Nat.mod_lt _ h0⟩
    · rw [if_neg c1]
      by_cases c2 : ((decide (0 < a.2.2.2.2.1)) || (decide (a.1.length ≤ a.2.1))) = true
      · rw [if_pos c2]
        exact ⟨_, rfl, trivial⟩
      · have c3 : ¬ a.1.length ≤ a.2.1 := fun h => c2 (by rw [decide_eq_true h, Bool.or_true])
        obtain ⟨st', e⟩ := load_ok a (by omega)
        rw [if_neg c2, e]
        exact ⟨_, rfl, trivial⟩
  rcases lp with ⟨b, e⟩ | ⟨r, e, hr⟩
  · rw [lpB_nx e]
    have j : ∃ j, (if (decide (0 < b.2.2.2.2.1)) = true then (gd (1 ≤ b.2.2.2.2.1) <|
      lett ((b.1, b.2.1, b.2.2.1, b.2.2.2.1, (b.2.2.2.2.1 - 1), b.2.2.2.2.2) : TP) fun c24 =>
      some c24) else (some b) : Option TP) = some j := by
      by_cases c1 : 0 < b.2.2.2.2.1
      · rw [if_pos (decide_eq_true c1), gd_ok (Nat.succ_le_of_lt c1), lett_is]
        exact ⟨_, rfl⟩
      · rw [if_neg (by rw [decide_eq_false c1]; decide)]
        exact ⟨_, rfl⟩
    obtain ⟨j, ej⟩ := j
    rw [ej, Option.bind_some, lett_is, gd_ok h0]
    exact ⟨_, _, rfl, .inr (Nat.mod_lt _ h0)⟩
  · rw [lpB_rt e]
    exact ⟨_, _, rfl, .inr hr⟩
theorem draw_lt (st : TP) {m : Nat} (h0 : 0 < m) (h1 : m < 1000000000) : ∃ d st', t_law_draw st m = some (d, st') ∧ d < m := by
  obtain ⟨d, st', e, h⟩ := draw_ok st h1
  exact ⟨d, st', e, by omega⟩
theorem perm_er {α : Type} {left : List α} {d : Nat} (h : d < left.length) : (left.eraseIdx d ++ [left[d]]).Perm left := by
  rw [List.eraseIdx_eq_take_drop_succ]
  have h1 : left = left.take d ++ left[d] :: left.drop (d + 1) := by
    rw [← List.drop_eq_getElem_cons h, List.take_append_drop]
  refine List.Perm.trans ?_ (List.Perm.of_eq h1.symm)
  rw [List.append_assoc]
  exact List.Perm.append_left _ (List.perm_append_singleton _ _)
theorem shuffled_ok (st : TP) {n : Nat} (hn : n ≤ 400000) : ∃ L st', t_law_shuffled st n = some (L, st') ∧ L.Perm (List.range n) := by
  unfold t_law_shuffled
  rw [gd_ok hn, lett_is, List.length_range, gd_ok hn, gd_ok (by rw [List.length_range]; exact hn)]
  obtain ⟨q, e, l1, pq⟩ := lcW_inv (f := fun (q15 : (TP × (List Nat))) (k6 : Nat) => ((t_law_draw q15.1 q15.2.length).bind fun r17 => gd (q15.2.length ≤ 400000) <| (q15.2[r17.1]?).bind fun v21 => lett ((q15.2.eraseIdx r17.1) : (List Nat)) fun c23 => some (some v21, (r17.2, c23)) : Option (Option Nat × (TP × (List Nat))))) (xs := List.range n) (a0 := (st, List.range n)) (fun i acc q => q.2.length + i = n ∧ (q.2 ++ acc).Perm (List.range n)) ⟨List.length_range, by rw [List.append_nil]⟩ fun i x acc q hx ⟨l1, pq⟩ => by
    have hi : i < n := by
      have := (List.getElem?_eq_some_iff.mp hx).1
      rwa [List.length_range] at this
    obtain ⟨d, st', e, hd⟩ := draw_lt q.1 (m := q.2.length) (by omega) (by omega)
    rw [e, Option.bind_some, gd_ok (by omega), List.getElem?_eq_getElem hd, Option.bind_some, lett_is]
    refine ⟨_, rfl, ?_, ?_⟩
    · show (q.2.eraseIdx d).length + (i + 1) = n
      rw [List.length_eraseIdx_of_lt hd]
      omega
    · refine List.Perm.trans ?_ pq
      show (q.2.eraseIdx d ++ (acc ++ [q.2[d]])).Perm (q.2 ++ acc)
      rw [← List.append_assoc]
      refine List.Perm.trans ?_ (List.Perm.append_right acc (perm_er hd))
      rw [List.append_assoc, List.append_assoc]
      exact List.Perm.append_left _ List.perm_append_comm
  rw [e, Option.bind_some]
  refine ⟨_, _, rfl, ?_⟩
  rw [List.length_range] at l1
  have : q.2.2 = [] := List.eq_nil_of_length_eq_zero (by omega)
  rw [this, List.nil_append] at pq
  exact pq
def Mat (n : Nat) (T : List (List Bool)) : Prop := T.length = n ∧ ∀ r ∈ T, r.length = n
def ent (T : List (List Bool)) (x y : Nat) : Bool := (T[x]?.getD [])[y]?.getD false
theorem Mat.row {n : Nat} {T : List (List Bool)} (h : Mat n T) {x : Nat} (hx : x < n) : ∃ r, T[x]? = some r ∧ r.length = n ∧ ∀ y, y < n → r[y]? = some (ent T x y) := by
  have hl : x < T.length := by rw [h.1]; exact hx
  have e := List.getElem?_eq_getElem hl
  have l := h.2 _ (List.getElem_mem hl)
  refine ⟨_, e, l, fun y hy => ?_⟩
  unfold ent
  rw [e]
  show T[x][y]? = some (T[x][y]?.getD false)
  rw [List.getElem?_eq_getElem (by omega)]
  rfl
theorem Mat.set {n : Nat} {T : List (List Bool)} (h : Mat n T) {x : Nat} {r : List Bool} (hr : r.length = n) : Mat n (T.set x r) := ⟨by rw [List.length_set]; exact h.1, fun z hz => by
  rcases List.mem_or_eq_of_mem_set hz with q | q
  · exact h.2 z q
  · rw [q]; exact hr⟩
theorem ent_set {T : List (List Bool)} {x : Nat} {r : List Bool} (hx : x < T.length) (a y : Nat) : ent (T.set x r) a y = if a = x then r[y]?.getD false else ent T a y := by
  unfold ent
  by_cases c : a = x
  · subst c
    rw [if_pos rfl, List.getElem?_set_self hx]
    rfl
  · rw [if_neg c, List.getElem?_set_ne fun e => c e.symm]
theorem fs_len {n : Nat} : (List.replicate n [false]).flatten.length = n := by
  rw [List.length_flatten, List.map_replicate, List.sum_replicate_nat]
  exact Nat.mul_one n
theorem zs_len {n k : Nat} : (List.replicate n [k]).flatten.length = n := by
  rw [List.length_flatten, List.map_replicate, List.sum_replicate_nat]
  exact Nat.mul_one n
theorem fs_get {n y : Nat} : (List.replicate n [false]).flatten[y]?.getD false = false := by
  cases e : (List.replicate n [false]).flatten[y]? with
  | none => rfl
  | some b =>
    obtain ⟨l, h1, h2⟩ := List.mem_flatten.mp (List.mem_of_getElem? e)
    rw [List.eq_of_mem_replicate h1] at h2
    exact List.mem_singleton.mp h2
theorem zero_ok {n : Nat} (hn : n ≤ 400000) : ∃ T, lcO (fun _ => some true) (fun k2 : Nat => (gd ([false].length * n ≤ 400000) <| gd (n ≤ 400000) <| some (List.replicate n [false]).flatten : Option (List Bool))) (List.range n) = some T ∧ Mat n T ∧ ∀ x y, ent T x y = false := by
  refine ⟨_, lcO_map (v1 := fun _ => (List.replicate n [false]).flatten) fun x _ => by rw [gd_ok (by show 1 * n ≤ _; omega), gd_ok hn], ⟨by rw [List.length_map, List.length_range], fun r hr => ?_⟩, fun x y => ?_⟩
  · obtain ⟨_, _, rfl⟩ := List.mem_map.mp hr
    exact fs_len
  · unfold ent
    rw [List.getElem?_map]
    cases (List.range n)[x]? with
    | none => rfl
    | some z => exact fs_get
structure SO (n : Nat) (T : List (List Bool)) : Prop where
  mt : Mat n T
  up : ∀ x y, ent T x y = true → x < n ∧ y < n
  ir : ∀ x y, ent T x y = true → x < y
  tr : ∀ x y z, ent T x y = true → ent T y z = true → ent T x z = true
theorem ent_lt {n : Nat} {T : List (List Bool)} (h : Mat n T) {x y : Nat} (e : ent T x y = true) : x < n ∧ y < n := by
  unfold ent at e
  cases ex : T[x]? with
  | none => rw [ex] at e; cases e
  | some r =>
    rw [ex] at e
    have lx := (List.getElem?_eq_some_iff.mp ex).1
    have lr := h.2 r (List.mem_of_getElem? ex)
    have e : r[y]?.getD false = true := e
    cases ey : r[y]? with
    | none => rw [ey] at e; cases e
    | some b =>
      have := (List.getElem?_eq_some_iff.mp ey).1
      have := h.1
      omega
theorem closed_ok {n : Nat} (hn : n ≤ 400000) {ls : List (Nat × Nat)} (hl : ∀ p ∈ ls, p.1 < p.2 ∧ p.2 < n) : ∃ T, t_law_closed n ls = some T ∧ SO n T := by
  unfold t_law_closed
  rw [gd_ok hn, gd_ok (by rw [List.length_range]; exact hn)]
  obtain ⟨T0, e0, m0, z0⟩ := zero_ok hn
  rw [e0, Option.bind_some]
  obtain ⟨T1, e1, m1, i1⟩ := forO_mem (f := tb1_law_closed) (xs := ls) (a0 := T0) (fun q => Mat n q ∧ ∀ x y, ent q x y = true → x < y) ⟨m0, fun x y e => by rw [z0] at e; cases e⟩ fun p hp q ⟨mq, iq⟩ => by
    obtain ⟨h1, h2⟩ := hl p hp
    obtain ⟨r, er, lr, hr⟩ := mq.row (x := p.1) (by omega)
    unfold tb1_law_closed
    rw [er, Option.bind_some, Option.bind_some, gd_ok (by omega), lett_is]
    refine ⟨_, rfl, mq.set (by rw [List.length_set]; exact lr), fun x y e => ?_⟩
    rw [ent_set (by rw [mq.1]; omega)] at e
    by_cases c : x = p.1
    · rw [if_pos c] at e
      by_cases c2 : p.2 = y
      · omega
      · rw [List.getElem?_set_ne c2] at e
        refine iq x y ?_
        unfold ent
        rw [c, er]
        exact e
    · rw [if_neg c] at e
      exact iq x y e
  rw [e1, Option.bind_some, gd_ok hn]
  obtain ⟨T2, e2, m2, i2, t2⟩ := forO_rng (f := tb3_law_closed n) (n := n) (a0 := T1) (fun k q => Mat n q ∧ (∀ x y, ent q x y = true → x < y) ∧ ∀ m x y, m < k → ent q x m = true → ent q m y = true → ent q x y = true) ⟨m1, i1, fun m x y h => absurd h (Nat.not_lt_zero _)⟩ fun k q hk ⟨mq, iq, tq⟩ => by
    unfold tb3_law_closed
    rw [gd_ok hn]
    obtain ⟨q2, e3, m3, h3⟩ := forO_rng (f := tb2_law_closed n k) (n := n) (a0 := q) (fun i q2 => Mat n q2 ∧ ∀ x y, ent q2 x y = if x < i then (ent q x y || (ent q x k && ent q k y)) else ent q x y) ⟨mq, fun x y => by rw [if_neg (Nat.not_lt_zero _)]⟩ fun i q2 hi ⟨m3, h3⟩ => by
      obtain ⟨r, er, lr, hr⟩ := m3.row hi
      obtain ⟨rk, erk, lrk, hrk⟩ := m3.row hk
      have kk : ent q k k = false := by
        cases e : ent q k k with
        | false => rfl
        | true => exact absurd (iq k k e) (Nat.lt_irrefl _)
      have qi : ∀ y, ent q2 i y = ent q i y := fun y => by rw [h3, if_neg (Nat.lt_irrefl _)]
      have qk : ∀ y, ent q2 k y = ent q k y := fun y => by
        rw [h3]
        split
        · rw [kk, Bool.false_and, Bool.or_false]
        · rfl
      unfold tb2_law_closed
      rw [er, Option.bind_some, hr k hk, Option.bind_some]
      by_cases c : ent q2 i k = true
      · rw [if_pos c, gd_ok hn, gd_ok (by rw [List.length_range]; exact hn), lcO_map (v1 := fun y => (ent q2 i y || ent q2 k y)) fun y hy => by
          have hy := List.mem_range.mp hy
          rw [Option.bind_some, hr y hy, Option.bind_some]
          cases ent q2 i y
          · rw [if_neg (by decide), erk, Option.bind_some, hrk y hy]
            rfl
          · rfl, Option.bind_some, lett_is, gd_ok (by rw [m3.1]; exact hi), lett_is]
        refine ⟨_, rfl, m3.set (by rw [List.length_map, List.length_range]), fun x y => ?_⟩
        rw [ent_set (by rw [m3.1]; exact hi)]
        by_cases cx : x = i
        · subst cx
          rw [if_pos rfl, if_pos (Nat.lt_succ_self _), ← qi y, ← qi k, ← qk y, c, Bool.true_and]
          by_cases cy : y < n
          · rw [List.getElem?_map, List.getElem?_range cy]
            rfl
          · rw [List.getElem?_eq_none (by rw [List.length_map, List.length_range]; omega)]
            have f1 : ent q2 x y = false := by
              cases e : ent q2 x y with
              | false => rfl
              | true => exact absurd (ent_lt m3 e).2 cy
            have f2 : ent q2 k y = false := by
              cases e : ent q2 k y with
              | false => rfl
              | true => exact absurd (ent_lt m3 e).2 cy
            rw [f1, f2]
            rfl
        · rw [if_neg cx, h3]
          by_cases c2 : x < i
          · rw [if_pos c2, if_pos (by omega)]
          · rw [if_neg c2, if_neg (by omega)]
      · rw [if_neg c]
        refine ⟨_, rfl, m3, fun x y => ?_⟩
        rw [h3]
        by_cases cx : x = i
        · subst cx
          rw [if_neg (Nat.lt_irrefl _), if_pos (Nat.lt_succ_self _)]
          rw [qi k] at c
          rw [Bool.eq_false_iff.mpr c, Bool.false_and, Bool.or_false]
        · by_cases c2 : x < i
          · rw [if_pos c2, if_pos (by omega)]
          · rw [if_neg c2, if_neg (by omega)]
    rw [e3]
    have h4 : ∀ x y, ent q2 x y = true ↔ (ent q x y = true ∨ (ent q x k = true ∧ ent q k y = true)) := fun x y => by
      rw [h3]
      by_cases c : x < n
      · rw [if_pos c, Bool.or_eq_true, Bool.and_eq_true]
      · rw [if_neg c]
        exact ⟨.inl, fun h => h.elim (fun a => a) fun a => absurd (ent_lt mq a.1).1 c⟩
    refine ⟨_, rfl, m3, fun x y e => ?_, fun m x y hm e1 e2 => ?_⟩
    · rcases (h4 x y).mp e with a | ⟨a, b⟩
      · exact iq x y a
      · exact Nat.lt_trans (iq _ _ a) (iq _ _ b)
    · refine (h4 x y).mpr ?_
      have e1 := (h4 x m).mp e1
      have e2 := (h4 m y).mp e2
      rcases Nat.lt_succ_iff_lt_or_eq.mp hm with hm | rfl
      · rcases e1 with a | ⟨a, b⟩
        · rcases e2 with c | ⟨c, d⟩
          · exact .inl (tq m x y hm a c)
          · exact .inr ⟨tq m x k hm a c, d⟩
        · rcases e2 with c | ⟨c, d⟩
          · exact .inr ⟨a, tq m k y hm b c⟩
          · exact absurd (iq _ _ (tq m k k hm b c)) (Nat.lt_irrefl _)
      · rcases e1 with a | ⟨_, b⟩
        · rcases e2 with c | ⟨c, d⟩
          · exact .inr ⟨a, c⟩
          · exact absurd (iq _ _ c) (Nat.lt_irrefl _)
        · exact absurd (iq _ _ b) (Nat.lt_irrefl _)
  rw [e2]
  exact ⟨_, rfl, m2, fun x y e => ent_lt m2 e, i2, fun x y z a b => t2 y x z (ent_lt m2 a).2 a b⟩
end Mi.k59
set_option maxHeartbeats 2000000
namespace Mi.k59
open PySem L2
theorem drawn_ok (st : TP) {m : Nat} (hm : m ≤ 64) : ∃ T st' n, t_law_drawn st m = some (T, st') ∧ SO n T ∧ n ≤ m := by
  unfold t_law_drawn
  obtain ⟨n, s1, e1, hn⟩ := draw_lt st (m := m + 1) (by omega) (by omega)
  obtain ⟨way, s2, e2, _⟩ := draw_lt s1 (m := 4) (by omega) (by omega)
  rw [e1, Option.bind_some, show t_law_draw (n, s1).2 4 = _ from e2, Option.bind_some]
  have nn : (n, s1).1 = n := rfl
  by_cases c : way = 3
  · rw [if_pos (decide_eq_true c), lett_is, gd_ok (by show n / 2 ≤ _; omega)]
    obtain ⟨ls, e3, l3, h3⟩ := forO_rng (f := tb1_law_drawn (n / 2)) (n := n / 2) (a0 := []) (fun i q => q.length = 2 * i ∧ ∀ p ∈ q, p.1 < p.2 ∧ p.2 < n) ⟨rfl, fun p h => (nomatch h)⟩ fun i q hi ⟨l3, h3⟩ => by
      have h0 : 0 < n / 2 := by omega
      unfold tb1_law_drawn
      rw [gd_ok h0, gd_ok (by show q.length + 2 ≤ _; omega), lett_is]
      refine ⟨_, rfl, by rw [List.length_append, l3]; rfl, fun p hp => ?_⟩
      have := Nat.mod_lt (i + 1) h0
      rcases List.mem_append.mp hp with h | h
      · exact h3 p h
      · rcases List.mem_cons.mp h with h | h
        · rw [h]
          exact ⟨by show i < n / 2 + i; omega, by show n / 2 + i < n; omega⟩
        · rw [List.mem_singleton.mp h]
          exact ⟨by show (i + 1) % (n / 2) < n / 2 + i; omega, by show n / 2 + i < n; omega⟩
    rw [show forO (tb1_law_drawn ((n, s1).1 / 2)) (List.range ((n, s1).1 / 2)) [] = _ from e3, Option.bind_some]
    obtain ⟨T, e4, hT⟩ := closed_ok (n := n) (by omega) h3
    rw [show t_law_closed (n, s1).1 ls = _ from e4]
    exact ⟨_, _, n, rfl, hT, by omega⟩
  · rw [if_neg (by rw [show (way, s2).1 = way from rfl, decide_eq_false c]; decide)]
    obtain ⟨d, s3, e3, hd⟩ := draw_lt s2 (m := 4) (by omega) (by omega)
    rw [show t_law_draw (way, s2).2 4 = _ from e3, Option.bind_some, lett_is, gd_ok (by show 1 * n ≤ _; omega), gd_ok (by show n ≤ _; omega), lett_is]
    obtain ⟨rare, hr⟩ : ∃ r, r = 2 + (d, s3).1 := ⟨_, rfl⟩
    have hr2 : 0 < rare ∧ rare < 1000000000 := by
      rw [hr]
      show 0 < 2 + d ∧ 2 + d < _
      omega
    rw [← hr]
    have j : ∃ j : List Nat × TP, (if (decide ((way, s2).1 = 2)) = true then (gd ((n, s1).1 ≤ 400000) <|
      gd ((List.range (n, s1).1).length ≤ 400000) <|
      (lcW (fun (q43 : TP) (k38 : Nat) => ((t_law_draw q43 4).bind fun r45 => some (some r45.1, r45.2) : Option (Option Nat × TP))) (List.range (n, s1).1) (d, s3).2).bind fun r48 =>
      some (r48.1, r48.2)) else (some ((List.replicate (n, s1).1 [0]).flatten, (d, s3).2)) : Option ((List Nat) × TP)) = some j ∧ j.1.length = n := by
      by_cases c2 : way = 2
      · rw [if_pos (decide_eq_true c2), gd_ok (by show n ≤ _; omega), gd_ok (by rw [List.length_range]; show n ≤ _; omega)]
        obtain ⟨q, e4, l4⟩ := lcW_inv (f := fun (q43 : TP) (k38 : Nat) => ((t_law_draw q43 4).bind fun r45 => some (some r45.1, r45.2) : Option (Option Nat × TP))) (xs := List.range n) (a0 := s3) (fun i acc _ => acc.length = i) rfl fun i x acc q hx l => by
          obtain ⟨z, s5, e5, _⟩ := draw_lt q (m := 4) (by omega) (by omega)
          rw [e5]
          exact ⟨_, rfl, by rw [List.length_append, l]; rfl⟩
        rw [List.length_range] at l4
        rw [show lcW (fun (q43 : TP) (k38 : Nat) => ((t_law_draw q43 4).bind fun r45 => some (some r45.1, r45.2) : Option (Option Nat × TP))) (List.range (n, s1).1) (d, s3).2 = _ from e4]
        exact ⟨_, rfl, l4⟩
      · rw [if_neg (by rw [show (way, s2).1 = way from rfl, decide_eq_false c2]; decide)]
        exact ⟨_, rfl, zs_len⟩
    obtain ⟨j, ej, lj⟩ := j
    rw [ej, Option.bind_some, gd_ok (by show n ≤ _; omega)]
    obtain ⟨q, e5, l5, h5⟩ := forO_rng (f := tb3_law_drawn (n, s1) (way, s2) rare j) (n := n) (a0 := (j.2, [])) (fun i q => q.2.length ≤ i * (2 * n) ∧ ∀ p ∈ q.2, p.1 < p.2 ∧ p.2 < n) ⟨Nat.zero_le _, fun p h => (nomatch h)⟩ fun x q hx ⟨l5, h5⟩ => by
      have l6 : x * (2 * n) ≤ 64 * (2 * 64) := Nat.mul_le_mul (by omega) (by omega)
      unfold tb3_law_drawn
      rw [gd_ok (by omega), gd_ok (by show n ≤ _; omega)]
      have rl : (rng (x + 1) n).length ≤ n := by
        unfold rng
        rw [List.length_map, List.length_range]
        omega
      obtain ⟨q2, e6, l7, h7⟩ := forO_inv (f := tb2_law_drawn (way, s2) rare j x) (xs := rng (x + 1) n) (a0 := (q.1, q.2)) (fun i q2 => q2.2.length ≤ q.2.length + 2 * i ∧ ∀ p ∈ q2.2, p.1 < p.2 ∧ p.2 < n) ⟨Nat.le_refl _, h5⟩ fun i y q2 hy ⟨l7, h7⟩ => by
        have hy1 : x < y ∧ y < n := by
          have := List.mem_of_getElem? hy
          unfold rng at this
          obtain ⟨k, hk, rfl⟩ := List.mem_map.mp this
          have := List.mem_range.mp hk
          omega
        have hi : i < n := by
          have := (List.getElem?_eq_some_iff.mp hy).1
          omega
        have c0 : ∃ c : Bool × TP, (if (decide ((way, s2).1 = 2)) = true then ((j.1[x]?).bind fun v62 => (j.1[y]?).bind fun v63 => (if (decide (v62 < v63)) = true then ((t_law_draw q2.1 4).bind fun r64 => some ((decide (0 < r64.1)), r64.2)) else (some (false, q2.1))).bind fun c67 => some (c67.1, c67.2)) else (some (false, q2.1))) = some c := by
          by_cases c2 : way = 2
          · rw [if_pos (decide_eq_true c2), List.getElem?_eq_getElem (show x < j.1.length by omega), Option.bind_some, List.getElem?_eq_getElem (show y < j.1.length by omega), Option.bind_some]
            by_cases c3 : j.1[x] < j.1[y]
            · obtain ⟨z, s5, e5, _⟩ := draw_lt q2.1 (m := 4) (by omega) (by omega)
              rw [if_pos (decide_eq_true c3), e5]
              exact ⟨_, rfl⟩
            · rw [if_neg (by rw [decide_eq_false c3]; decide)]
              exact ⟨_, rfl⟩
          · rw [if_neg (by rw [show (way, s2).1 = way from rfl, decide_eq_false c2]; decide)]
            exact ⟨_, rfl⟩
        obtain ⟨c, ec⟩ := c0
        have add : ∀ ps : List (Nat × Nat), (∀ p ∈ ps, p.1 < p.2 ∧ p.2 < n) → ∀ p ∈ ps ++ [(x, y)], p.1 < p.2 ∧ p.2 < n := fun ps h p hp => by
          rcases List.mem_append.mp hp with h2 | h2
          · exact h p h2
          · rw [List.mem_singleton.mp h2]; exact hy1
        have j1 : ∃ ps : List (Nat × Nat), (if c.1 = true then (gd (q2.2.length ≤ 400000) <|
          lett ((q2.2 ++ [(x, y)]) : (List (Nat × Nat))) fun c79 =>
          some c79) else (some q2.2) : Option (List (Nat × Nat))) = some ps ∧ ps.length ≤ q2.2.length + 1 ∧ ∀ p ∈ ps, p.1 < p.2 ∧ p.2 < n := by
          split
          · rw [gd_ok (by omega), lett_is]
            exact ⟨_, rfl, by rw [List.length_append]; exact Nat.le_refl _, add _ h7⟩
          · exact ⟨_, rfl, Nat.le_succ _, h7⟩
        obtain ⟨ps, ep, lp, hp⟩ := j1
        have c1 : ∃ c4 : Bool × TP, (if (decide ((way, s2).1 < 2)) = true then ((t_law_draw c.2 rare).bind fun r80 => some ((decide (r80.1 = 0)), r80.2)) else (some (false, c.2))) = some c4 := by
          by_cases c2 : way < 2
          · obtain ⟨z, s5, e5, _⟩ := draw_lt c.2 hr2.1 hr2.2
            rw [if_pos (decide_eq_true c2), e5]
            exact ⟨_, rfl⟩
          · rw [if_neg (by rw [show (decide ((way, s2).1 < 2)) = false from decide_eq_false c2]; decide)]
            exact ⟨_, rfl⟩
        obtain ⟨c4, ec4⟩ := c1
        unfold tb2_law_drawn
        rw [ec, Option.bind_some, ep, Option.bind_some, ec4, Option.bind_some]
        split
        · rw [gd_ok (by omega), lett_is]
          exact ⟨_, rfl, by show (ps ++ [(x, y)]).length ≤ _; rw [List.length_append]; show ps.length + 1 ≤ _; omega, add _ hp⟩
        · exact ⟨_, rfl, by show ps.length ≤ _; omega, hp⟩
      rw [show forO (tb2_law_drawn (way, s2) rare j x) (rng (x + 1) (n, s1).1) (q.1, q.2) = _ from e6]
      exact ⟨_, rfl, by show q2.2.length ≤ (x + 1) * (2 * n); rw [Nat.succ_mul]; omega, h7⟩
    rw [show forO (tb3_law_drawn (n, s1) (way, s2) rare j) (List.range (n, s1).1) (j.2, []) = _ from e5, Option.bind_some]
    obtain ⟨T, e7, hT⟩ := closed_ok (n := n) (by omega) h5
    rw [show t_law_closed (n, s1).1 q.2 = _ from e7]
    exact ⟨_, _, n, rfl, hT, by omega⟩
def Row (n m : Nat) (row : List Nat) : Prop := row.length = n ∧ ∀ v ∈ row, v < m
theorem Row.set {n m : Nat} {row : List Nat} (h : Row n m row) {x v : Nat} (hv : v < m) : Row n m (row.set x v) := ⟨by rw [List.length_set]; exact h.1, fun z hz => by
  rcases List.mem_or_eq_of_mem_set hz with q | q
  · exact h.2 z q
  · rw [q]; exact hv⟩
theorem Row.get {n m : Nat} {row : List Nat} (h : Row n m row) {x : Nat} (hx : x < n) : row[x]? = some (row[x]?.getD 0) ∧ row[x]?.getD 0 < m := by
  have hl : x < row.length := by rw [h.1]; exact hx
  rw [List.getElem?_eq_getElem hl]
  exact ⟨rfl, h.2 _ (List.getElem_mem hl)⟩
end Mi.k59
set_option maxHeartbeats 2000000
namespace Mi.ch
def su : Nat → (Nat → Nat) → Nat
  | 0, _ => 0
  | n + 1, f => su n f + f n
theorem su_list {n : Nat} {f : Nat → Nat} : ((List.range n).map f).sum = su n f := by
  induction n with
  | zero => rfl
  | succ n ih => rw [List.range_succ, List.map_append, List.sum_append, ih]; simp [su]
theorem su_congr {n : Nat} {f g : Nat → Nat} (h : ∀ x, x < n → f x = g x) : su n f = su n g := by
  induction n with
  | zero => rfl
  | succ n ih =>
    unfold su
    rw [ih fun x hx => h x (by omega), h n (Nat.lt_succ_self _)]
theorem su_add {n : Nat} {f g : Nat → Nat} : su n (fun x => f x + g x) = su n f + su n g := by
  induction n with
  | zero => rfl
  | succ n ih =>
    show su n (fun x => f x + g x) + (f n + g n) = (su n f + f n) + (su n g + g n)
    rw [ih]
    omega
theorem su_zero {n : Nat} {f : Nat → Nat} (h : ∀ x, x < n → f x = 0) : su n f = 0 := by
  induction n with
  | zero => rfl
  | succ n ih =>
    unfold su
    rw [ih fun x hx => h x (by omega), h n (Nat.lt_succ_self _)]
theorem su_all {n : Nat} {f : Nat → Nat} (h : su n f = 0) : ∀ x, x < n → f x = 0 := by
  induction n with
  | zero => exact fun x hx => absurd hx (Nat.not_lt_zero _)
  | succ n ih =>
    unfold su at h
    intro x hx
    rcases Nat.lt_succ_iff_lt_or_eq.mp hx with c | rfl
    · exact ih (by omega) x c
    · omega
theorem su_one {n a : Nat} {c : Nat} : su n (fun x => if x = a then c else 0) = if a < n then c else 0 := by
  induction n with
  | zero => rfl
  | succ n ih =>
    show su n (fun x => if x = a then c else 0) + (if n = a then c else 0) = _
    rw [ih]
    by_cases h : a < n
    · rw [if_pos h, if_neg (show ¬ n = a by omega), if_pos (by omega)]
      rfl
    · rw [if_neg h]
      by_cases h2 : n = a
      · rw [if_pos h2, if_pos (by omega), Nat.zero_add]
      · rw [if_neg h2, if_neg (by omega)]
theorem su_filter {n : Nat} {P : Nat → Bool} {f : Nat → Nat} : (((List.range n).filter P).map f).sum = su n (fun x => if P x = true then f x else 0) := by
  induction n with
  | zero => rfl
  | succ n ih =>
    rw [List.range_succ, List.filter_append, List.map_append, List.sum_append, ih]
    show _ = su n (fun x => if P x = true then f x else 0) + (if P n = true then f n else 0)
    congr 1
    by_cases c : P n = true
    · rw [List.filter_cons_of_pos c, if_pos c]
      simp
    · rw [List.filter_cons_of_neg c, if_neg c]
      rfl
def N (n : Nat) (R : Nat → Nat → Bool) (F : Nat → Bool) : Nat → Nat → Nat
  | 0, y => if F y = true then 1 else 0
  | k + 1, y => if F y = true then su n (fun x => if R x y = true then N n R F k x else 0) else 0
theorem N_F {n : Nat} {R : Nat → Nat → Bool} {F : Nat → Bool} {k y : Nat} (h : ¬ F y = true) : N n R F k y = 0 := by
  cases k with
  | zero => unfold N; rw [if_neg h]
  | succ k => unfold N; rw [if_neg h]
theorem N_top {n : Nat} {R : Nat → Nat → Bool} {F : Nat → Bool} (up : ∀ x y, R x y = true → x < y) : ∀ k y, y < k → N n R F k y = 0
  | 0, _, h => absurd h (Nat.not_lt_zero _)
  | k + 1, y, h => by
    unfold N
    split
    · refine su_zero fun x _ => ?_
      split
      · rename_i c
        exact N_top up k x (by have := up x y c; omega)
      · rfl
    · rfl
def T (n : Nat) (R : Nat → Nat → Bool) (F : Nat → Bool) (k : Nat) : Nat := su n (N n R F k)
theorem T_top {n : Nat} {R : Nat → Nat → Bool} {F : Nat → Bool} (up : ∀ x y, R x y = true → x < y) {k : Nat} (h : n ≤ k) : T n R F k = 0 := su_zero fun y hy => N_top up k y (by omega)
theorem T_next {n : Nat} {R : Nat → Nat → Bool} {F : Nat → Bool} {k : Nat} (h : T n R F k = 0) : T n R F (k + 1) = 0 := su_zero fun y _ => by
  unfold N
  split
  · refine su_zero fun x hx => ?_
    rw [su_all h x hx]
    split <;> rfl
  · rfl
theorem T_more {n : Nat} {R : Nat → Nat → Bool} {F : Nat → Bool} {k : Nat} (h : T n R F k = 0) : ∀ j, T n R F (k + j) = 0
  | 0 => h
  | j + 1 => T_next (T_more h j)
def tst (F : Nat → Bool) (k y : Nat) (one : List Nat) : Bool := decide (one.length = k + 1) && decide (one.getLast? = some y) && one.all F
def cnt (C : List (List Nat)) (F : Nat → Bool) (k y : Nat) : Nat := (C.filter (tst F k y)).length
structure CI (n : Nat) (R : Nat → Nat → Bool) (ps : List Nat) (C : List (List Nat)) : Prop where
  ins : ∀ one ∈ C, ∀ x ∈ one, x ∈ ps
  cn : ∀ F k y, y ∈ ps → cnt C F k y = N n R F k y
  nl : (C.filter fun one => decide (one.length = 0)).length = 1
  le : ∀ one ∈ C, one.length ≤ ps.length
  sz : C.length ≤ 2 ^ ps.length
end Mi.ch
set_option maxHeartbeats 2000000
namespace Mi.ch
def si : Nat → (Nat → Int) → Int
  | 0, _ => 0
  | n + 1, f => si n f + f n
theorem si_congr {n : Nat} {f g : Nat → Int} (h : ∀ x, x < n → f x = g x) : si n f = si n g := by
  induction n with
  | zero => rfl
  | succ n ih =>
    unfold si
    rw [ih fun x hx => h x (by omega), h n (Nat.lt_succ_self _)]
theorem si_add {n : Nat} {f g : Nat → Int} : si n (fun x => f x + g x) = si n f + si n g := by
  induction n with
  | zero => rfl
  | succ n ih =>
    show si n (fun x => f x + g x) + (f n + g n) = (si n f + f n) + (si n g + g n)
    rw [ih]
    omega
theorem si_zero {n : Nat} {f : Nat → Int} (h : ∀ x, x < n → f x = 0) : si n f = 0 := by
  induction n with
  | zero => rfl
  | succ n ih =>
    unfold si
    rw [ih fun x hx => h x (by omega), h n (Nat.lt_succ_self _)]
    rfl
theorem si_neg {n : Nat} {f : Nat → Int} : si n (fun x => - f x) = - si n f := by
  induction n with
  | zero => rfl
  | succ n ih =>
    show si n (fun x => - f x) + - f n = - (si n f + f n)
    rw [ih]
    omega
theorem si_one {n a : Nat} {f : Nat → Int} : si n (fun x => if x = a then f x else 0) = if a < n then f a else 0 := by
  induction n with
  | zero => rfl
  | succ n ih =>
    show si n (fun x => if x = a then f x else 0) + (if n = a then f n else 0) = _
    rw [ih]
    by_cases h : a < n
    · rw [if_pos h, if_neg (show ¬ n = a by omega), if_pos (by omega)]
      omega
    · rw [if_neg h]
      by_cases h2 : n = a
      · rw [if_pos h2, if_pos (by omega), h2]
        omega
      · rw [if_neg h2, if_neg (by omega)]
        rfl
theorem si_front {n : Nat} {f : Nat → Int} : si (n + 1) f = f 0 + si n (fun x => f (x + 1)) := by
  induction n with
  | zero =>
    show 0 + f 0 = f 0 + 0
    omega
  | succ n ih =>
    show si (n + 1) f + f (n + 1) = f 0 + (si n (fun x => f (x + 1)) + f (n + 1))
    rw [ih]
    omega
theorem si_ext {n m : Nat} {f : Nat → Int} (h : ∀ x, n ≤ x → f x = 0) : si (n + m) f = si n f := by
  induction m with
  | zero => rfl
  | succ m ih =>
    show si (n + m) f + f (n + m) = _
    rw [ih, h _ (Nat.le_add_right ..)]
    omega
theorem si_same {n m : Nat} {f : Nat → Int} (h : ∀ x, n ≤ x → f x = 0) (h2 : ∀ x, m ≤ x → f x = 0) : si n f = si m f := by
  rw [← si_ext (m := m) h, ← si_ext (m := n) h2, Nat.add_comm]
def sg (k : Nat) : Int := if k % 2 = 0 then 1 else -1
theorem sg_s {k : Nat} : sg (k + 1) = - sg k := by
  unfold sg
  by_cases c : k % 2 = 0
  · rw [if_pos c, if_neg (by omega)]
  · rw [if_neg c, if_pos (by omega)]
    rfl
def alt (l : List Nat) : Int := (((stp 0 2 l).sum : Nat) : Int) - (((stp 1 2 l).sum : Nat) : Int)
theorem stp1 {a : Nat} {l : List Nat} : stp 1 2 (a :: l) = stp 0 2 l := by
  unfold stp
  have e : stpIs 1 2 (a :: l).length = (stpIs 0 2 l.length).map (· + 1) := by
    unfold stpIs
    rw [List.map_map, List.length_cons]
    by_cases c : 0 < l.length
    · rw [if_pos c, if_pos (by omega), show l.length + 1 - 1 - 1 = l.length - 0 - 1 by omega]
      refine List.map_congr_left fun m _ => ?_
      show 1 + m * 2 = 0 + m * 2 + 1
      omega
    · rw [if_neg c, if_neg (by omega)]
      rfl
  rw [e, List.filterMap_map]
  rfl
theorem stp0 {a : Nat} {l : List Nat} : stp 0 2 (a :: l) = a :: stp 1 2 l := by
  unfold stp
  have e : stpIs 0 2 (a :: l).length = 0 :: (stpIs 1 2 l.length).map (· + 1) := by
    unfold stpIs
    rw [List.map_map, List.length_cons, if_pos (by omega)]
    have : (l.length + 1 - 0 - 1) / 2 + 1 = (if 1 < l.length then (l.length - 1 - 1) / 2 + 1 else 0) + 1 := by
      split <;> omega
    rw [this, List.range_succ_eq_map, List.map_cons, List.map_map]
    refine congr (congrArg List.cons rfl) (List.map_congr_left fun m _ => ?_)
    show 0 + (m + 1) * 2 = 1 + m * 2 + 1
    omega
  rw [e, List.filterMap_cons, List.filterMap_map]
  rfl
theorem alt_cons {a : Nat} {l : List Nat} : alt (a :: l) = (a : Int) - alt l := by
  unfold alt
  rw [stp0, stp1, List.sum_cons]
  omega
theorem alt_map : ∀ (K : Nat) (f : Nat → Nat), alt ((List.range K).map f) = si K fun k => sg k * ((f k : Nat) : Int)
  | 0, f => rfl
  | K + 1, f => by
    rw [List.range_succ_eq_map, List.map_cons, List.map_map, alt_cons, alt_map K, si_front]
    have : si K (fun k => sg (k + 1) * ((f (k + 1) : Nat) : Int)) = - si K (fun k => sg k * ((f (k + 1) : Nat) : Int)) := by
      rw [← si_neg]
      refine si_congr fun k _ => ?_
      rw [sg_s, Int.neg_mul]
    rw [this]
    show (f 0 : Int) - si K (fun k => sg k * ((f (k + 1) : Nat) : Int)) = 1 * (f 0 : Int) + _
    omega
def E (n : Nat) (R : Nat → Nat → Bool) (F : Nat → Bool) : Int := si n fun k => sg k * ((T n R F k : Nat) : Int)
theorem E_alt {n K : Nat} {R : Nat → Nat → Bool} {F : Nat → Bool} (up : ∀ x y, R x y = true → x < y) (h : T n R F K = 0) : alt ((List.range K).map (T n R F)) = E n R F := by
  rw [alt_map]
  unfold E
  refine si_same (fun x hx => ?_) fun x hx => ?_
  · obtain ⟨j, rfl⟩ := Nat.le.dest hx
    rw [T_more h j]
    exact Int.mul_zero _
  · rw [T_top up hx]
    exact Int.mul_zero _
def wt (F : Nat → Bool) (one : List Nat) : Int := if one.all F = true then 1 - ((2 * ((one.length + 1) % 2) : Nat) : Int) else 0
theorem wt_sg {F : Nat → Bool} {one : List Nat} {k : Nat} (h : one.length = k + 1) (f : one.all F = true) : wt F one = sg k := by
  unfold wt sg
  rw [if_pos f, h]
  by_cases c : k % 2 = 0
  · rw [if_pos c, show (k + 1 + 1) % 2 = 0 by omega]
    rfl
  · rw [if_neg c, show (k + 1 + 1) % 2 = 1 by omega]
    rfl
theorem tot {n : Nat} {F : Nat → Bool} : ∀ {C : List (List Nat)}, (∀ one ∈ C, ∀ x ∈ one, x < n) → (∀ one ∈ C, one.length ≤ n) → ((C.filter fun one => decide (0 < one.length)).map (wt F)).sum = si n fun k => sg k * ((su n (fun y => cnt C F k y) : Nat) : Int)
  | [], _, _ => (si_zero fun k _ => by
    rw [show su n (fun y => cnt [] F k y) = 0 from su_zero fun y _ => rfl]
    exact Int.mul_zero _).symm
  | one :: C, h, hl => by
    have ih := tot (F := F) (fun o ho => h o (List.mem_cons_of_mem _ ho)) fun o ho => hl o (List.mem_cons_of_mem _ ho)
    have e : ∀ k, ((su n (fun y => cnt (one :: C) F k y) : Nat) : Int) = (if one.length = k + 1 then (if one.all F = true then 1 else 0) else 0) + ((su n (fun y => cnt C F k y) : Nat) : Int) := fun k => by
      have e1 : ∀ y, cnt (one :: C) F k y = (if tst F k y one = true then 1 else 0) + cnt C F k y := fun y => by
        unfold cnt
        by_cases c : tst F k y one = true
        · rw [List.filter_cons_of_pos c, if_pos c, List.length_cons, Nat.add_comm]
        · rw [List.filter_cons_of_neg c, if_neg c, Nat.zero_add]
      have e2 : su n (fun y => if tst F k y one = true then 1 else 0) = if one.length = k + 1 then (if one.all F = true then 1 else 0) else 0 := by
        cases el : one.getLast? with
        | none =>
          have : one = [] := List.getLast?_eq_none_iff.mp el
          rw [if_neg (by rw [this]; exact fun h => by cases h)]
          refine su_zero fun y _ => ?_
          unfold tst
          rw [el, show decide ((none : Option Nat) = some y) = false from decide_eq_false fun e => (by cases e), Bool.and_false, Bool.false_and]
          rfl
        | some z =>
          have zn : z < n := h one (List.mem_cons_self ..) z (List.mem_of_getLast? el)
          have : su n (fun y => if tst F k y one = true then 1 else 0) = su n (fun y => if y = z then (if one.length = k + 1 then (if one.all F = true then 1 else 0) else 0) else 0) := su_congr fun y _ => by
            unfold tst
            rw [el]
            by_cases c : y = z
            · subst c
              rw [if_pos rfl, decide_eq_true rfl, Bool.and_true]
              by_cases c1 : one.length = k + 1
              · rw [if_pos c1, decide_eq_true c1, Bool.true_and]
              · rw [if_neg c1, decide_eq_false c1, Bool.false_and]
                rfl
            · rw [if_neg c, show decide (some z = some y) = false from decide_eq_false fun e => c (Option.some.inj e).symm, Bool.and_false, Bool.false_and]
              rfl
          rw [this, su_one, if_pos zn]
      rw [show su n (fun y => cnt (one :: C) F k y) = su n (fun y => if tst F k y one = true then 1 else 0) + su n (fun y => cnt C F k y) by rw [← su_add]; exact su_congr fun y _ => e1 y, e2]
      split <;> (try split) <;> omega
    have e3 : (si n fun k => sg k * ((su n (fun y => cnt (one :: C) F k y) : Nat) : Int)) = si n (fun k => sg k * (if one.length = k + 1 then (if one.all F = true then 1 else 0) else 0)) + si n (fun k => sg k * ((su n (fun y => cnt C F k y) : Nat) : Int)) := by
      rw [← si_add]
      refine si_congr fun k _ => ?_
      rw [e, Int.mul_add]
    rw [e3, ← ih]
    by_cases c : 0 < one.length
    · obtain ⟨k, hk⟩ : ∃ k, one.length = k + 1 := ⟨one.length - 1, by omega⟩
      have kn : k < n := by
        have := hl one (List.mem_cons_self ..)
        omega
      rw [List.filter_cons_of_pos (p := fun one : List Nat => decide (0 < one.length)) (decide_eq_true c), List.map_cons, List.sum_cons]
      congr 1
      have : si n (fun j => sg j * (if one.length = j + 1 then (if one.all F = true then 1 else 0) else 0)) = si n (fun j => if j = k then sg j * (if one.all F = true then 1 else 0) else 0) := si_congr fun j _ => by
        by_cases c2 : j = k
        · rw [if_pos c2, if_pos (by omega)]
        · rw [if_neg c2, if_neg (by omega)]
          exact Int.mul_zero _
      rw [this, si_one, if_pos kn]
      by_cases f : one.all F = true
      · rw [if_pos f, wt_sg hk f, Int.mul_one]
      · unfold wt
        rw [if_neg f, if_neg f, Int.mul_zero]
    · rw [List.filter_cons_of_neg (p := fun one : List Nat => decide (0 < one.length)) (by rw [decide_eq_false c]; decide), si_zero fun j _ => by
        rw [if_neg (by omega)]
        exact Int.mul_zero _]
      omega
structure Lab (m : Nat) (ps : List (Nat × Nat)) (n : Nat) (R : Nat → Nat → Bool) (F : Nat → Bool) (lab : Nat → Nat) : Prop where
  inn : ∀ j, j < m → lab j < n ∧ F (lab j) = true
  inj : ∀ i j, i < m → j < m → lab i = lab j → i = j
  sur : ∀ x, x < n → F x = true → ∃ j, j < m ∧ lab j = x
  mem : ∀ p : Nat × Nat, p ∈ ps ↔ p.1 < m ∧ p.2 < m ∧ R (lab p.1) (lab p.2) = true
  nd : ps.Nodup
theorem psum {l m : List Nat} (h : l.Perm m) : l.sum = m.sum := by
  induction h with
  | nil => rfl
  | cons x _ ih => rw [List.sum_cons, List.sum_cons, ih]
  | swap x y l => rw [List.sum_cons, List.sum_cons, List.sum_cons, List.sum_cons]; omega
  | trans _ _ a b => exact a.trans b
theorem nd_map {α β : Type} {f : α → β} {l : List α} (nd : l.Nodup) (inj : ∀ x ∈ l, ∀ y ∈ l, f x = f y → x = y) : (l.map f).Nodup := by
  unfold List.Nodup
  rw [List.pairwise_map]
  exact List.Pairwise.imp_of_mem (fun hx hy n e => n (inj _ hx _ hy e)) nd
theorem Lab.sum {m n : Nat} {ps : List (Nat × Nat)} {R : Nat → Nat → Bool} {F : Nat → Bool} {lab : Nat → Nat} (h : Lab m ps n R F lab) (f : Nat → Nat) : su m (fun j => f (lab j)) = su n (fun x => if F x = true then f x else 0) := by
  rw [← su_list, ← su_filter, show ((List.range m).map fun j => f (lab j)) = ((List.range m).map lab).map f from (List.map_map ..).symm]
  refine psum (List.Perm.map f ((List.perm_ext_iff_of_nodup (nd_map List.nodup_range fun x hx y hy e => h.inj x y (List.mem_range.mp hx) (List.mem_range.mp hy) e) (List.Pairwise.filter _ List.nodup_range)).mpr fun x => ?_))
  rw [List.mem_map, List.mem_filter, List.mem_range]
  constructor
  · rintro ⟨j, hj, rfl⟩
    exact h.inn j (List.mem_range.mp hj)
  · rintro ⟨a, b⟩
    obtain ⟨j, hj, e⟩ := h.sur x a b
    exact ⟨j, List.mem_range.mpr hj, e⟩
theorem Lab.lows {m n : Nat} {ps : List (Nat × Nat)} {R : Nat → Nat → Bool} {F : Nat → Bool} {lab : Nat → Nat} (h : Lab m ps n R F lab) (f : Nat → Nat) {j : Nat} (hj : j < m) : ((ps.filter fun p => decide (p.2 = j)).map fun p => f (lab p.1)).sum = su n (fun x => if (F x && R x (lab j)) = true then f x else 0) := by
  rw [← su_filter, show ((ps.filter fun p => decide (p.2 = j)).map fun p => f (lab p.1)) = ((ps.filter fun p => decide (p.2 = j)).map fun p => lab p.1).map f from (List.map_map ..).symm]
  have pm : ∀ p, p ∈ ps.filter (fun p => decide (p.2 = j)) ↔ p.1 < m ∧ p.2 = j ∧ R (lab p.1) (lab j) = true := fun p => by
    rw [List.mem_filter, h.mem, decide_eq_true_iff]
    constructor
    · rintro ⟨⟨a, b, c⟩, d⟩
      exact ⟨a, d, by rw [← d]; exact c⟩
    · rintro ⟨a, d, c⟩
      exact ⟨⟨a, by rw [d]; exact hj, by rw [d]; exact c⟩, d⟩
  refine psum (List.Perm.map f ((List.perm_ext_iff_of_nodup (nd_map (List.Pairwise.filter _ h.nd) fun p hp q hq e => ?_) (List.Pairwise.filter _ List.nodup_range)).mpr fun x => ?_))
  · obtain ⟨a, b, _⟩ := (pm p).mp hp
    obtain ⟨c, d, _⟩ := (pm q).mp hq
    exact Prod.ext (h.inj _ _ a c e) (b.trans d.symm)
  · rw [List.mem_map, List.mem_filter, List.mem_range, Bool.and_eq_true]
    constructor
    · rintro ⟨p, hp, rfl⟩
      obtain ⟨a, _, c⟩ := (pm p).mp hp
      exact ⟨(h.inn _ a).1, (h.inn _ a).2, c⟩
    · rintro ⟨a, b, c⟩
      obtain ⟨i, hi, rfl⟩ := h.sur x a b
      exact ⟨(i, j), (pm _).mpr ⟨hi, rfl, c⟩, rfl⟩
theorem Lab.next {m n : Nat} {ps : List (Nat × Nat)} {R : Nat → Nat → Bool} {F : Nat → Bool} {lab : Nat → Nat} (h : Lab m ps n R F lab) {k j : Nat} (hj : j < m) : ((ps.filter fun p => decide (p.2 = j)).map fun p => N n R F k (lab p.1)).sum = N n R F (k + 1) (lab j) := by
  rw [h.lows (N n R F k) hj]
  show _ = if F (lab j) = true then su n (fun x => if R x (lab j) = true then N n R F k x else 0) else 0
  rw [if_pos (h.inn j hj).2]
  refine su_congr fun x _ => ?_
  by_cases f : F x = true
  · rw [f, Bool.true_and]
  · rw [N_F f, Bool.eq_false_iff.mpr f, Bool.false_and, if_neg (by decide)]
    split <;> rfl
theorem Lab.all {m n : Nat} {ps : List (Nat × Nat)} {R : Nat → Nat → Bool} {F : Nat → Bool} {lab : Nat → Nat} (h : Lab m ps n R F lab) {k : Nat} : su m (fun j => N n R F k (lab j)) = T n R F k := by
  rw [h.sum (N n R F k)]
  refine su_congr fun x _ => ?_
  by_cases f : F x = true
  · rw [if_pos f]
  · rw [if_neg f, N_F f]
end Mi.ch
set_option maxHeartbeats 2000000
namespace Mi.ch
section
variable {n : Nat} {R : Nat → Nat → Bool} {F : Nat → Bool}
def Rk (n : Nat) (R : Nat → Nat → Bool) (κ : Nat → Nat) : Prop := (∀ x y, x < n → y < n → R x y = true → κ x < κ y) ∧ ∀ y, y < n → κ y < n
theorem N_rk {κ : Nat → Nat} (h : Rk n R κ) : ∀ k y, y < n → κ y < k → N n R F k y = 0
  | 0, _, _, h => absurd h (Nat.not_lt_zero _)
  | k + 1, y, hy, hk => by
    unfold N
    split
    · refine su_zero fun x hx => ?_
      split
      · rename_i c
        exact N_rk h k x hx (by have := h.1 x y hx hy c; omega)
      · rfl
    · rfl
def sy (n : Nat) (R : Nat → Nat → Bool) (F : Nat → Bool) (y : Nat) : Int := si n fun k => sg k * ((N n R F k y : Nat) : Int)
theorem su_si {f : Nat → Nat} : ((su n f : Nat) : Int) = si n fun x => ((f x : Nat) : Int) := by
  induction n with
  | zero => rfl
  | succ n ih =>
    show ((su n f + f n : Nat) : Int) = si n (fun x => ((f x : Nat) : Int)) + ((f n : Nat) : Int)
    rw [← ih]
    omega
theorem si_mul {c : Int} {f : Nat → Int} {m : Nat} : c * si m f = si m fun x => c * f x := by
  induction m with
  | zero => exact Int.mul_zero _
  | succ m ih =>
    show c * (si m f + f m) = si m (fun x => c * f x) + c * f m
    rw [Int.mul_add, ih]
theorem si_swap {m k : Nat} {f : Nat → Nat → Int} : si m (fun x => si k fun y => f x y) = si k fun y => si m fun x => f x y := by
  induction m with
  | zero => exact (si_zero fun _ _ => rfl).symm
  | succ m ih =>
    show si m (fun x => si k fun y => f x y) + si k (fun y => f m y) = si k fun y => si m (fun x => f x y) + f m y
    rw [ih, ← si_add]
theorem E_sy : E n R F = si n (sy n R F) := by
  unfold E sy T
  rw [si_swap]
  refine si_congr fun k _ => ?_
  rw [su_si, si_mul]
theorem sy_rec {κ : Nat → Nat} (h : Rk n R κ) {y : Nat} (hy : y < n) : sy n R F y = if F y = true then 1 - si n (fun x => if R x y = true then sy n R F x else 0) else 0 := by
  by_cases f : F y = true
  · rw [if_pos f]
    have e : sy n R F y = si (n + 1) fun k => sg k * ((N n R F k y : Nat) : Int) := by
      show _ = si n (fun k => sg k * ((N n R F k y : Nat) : Int)) + sg n * ((N n R F n y : Nat) : Int)
      rw [N_rk h n y hy (h.2 y hy), show sg n * ((0 : Nat) : Int) = 0 from Int.mul_zero _, Int.add_zero]
      rfl
    rw [e, si_front]
    have e0 : sg 0 * ((N n R F 0 y : Nat) : Int) = 1 := by
      unfold N
      rw [if_pos f]
      rfl
    rw [e0]
    have e1 : si n (fun k => sg (k + 1) * ((N n R F (k + 1) y : Nat) : Int)) = - si n (fun x => if R x y = true then sy n R F x else 0) := by
      have a : ∀ k, k < n → sg (k + 1) * ((N n R F (k + 1) y : Nat) : Int) = - si n (fun x => if R x y = true then sg k * ((N n R F k x : Nat) : Int) else 0) := fun k _ => by
        rw [sg_s, show N n R F (k + 1) y = su n (fun x => if R x y = true then N n R F k x else 0) from if_pos f, su_si, Int.neg_mul, si_mul]
        congr 1
        refine si_congr fun x _ => ?_
        split
        · rfl
        · exact Int.mul_zero _
      rw [si_congr a, si_neg, si_swap]
      congr 1
      refine si_congr fun x _ => ?_
      unfold sy
      split
      · rfl
      · exact si_zero fun _ _ => rfl
    rw [e1]
    omega
  · rw [if_neg f]
    unfold sy
    refine si_zero fun k _ => ?_
    rw [N_F f]
    exact Int.mul_zero _
theorem sy_uniq {κ : Nat → Nat} (h : Rk n R κ) {g : Nat → Int} (hg : ∀ y, y < n → g y = if F y = true then 1 - si n (fun x => if R x y = true then g x else 0) else 0) : ∀ y, y < n → g y = sy n R F y := by
  have go : ∀ m y, y < n → κ y < m → g y = sy n R F y := by
    intro m
    induction m with
    | zero => exact fun y _ h => absurd h (Nat.not_lt_zero _)
    | succ m ih =>
      intro y hy hm
      rw [hg y hy, sy_rec h hy]
      congr 2
      refine si_congr fun x hx => ?_
      split
      · rename_i c
        exact ih x hx (by have := h.1 x y hx hy c; omega)
      · rfl
  exact fun y hy => go (κ y + 1) y hy (Nat.lt_succ_self _)
theorem sy_not {y : Nat} (f : ¬ F y = true) : sy n R F y = 0 := by
  unfold sy
  refine si_zero fun k _ => ?_
  rw [N_F f]
  exact Int.mul_zero _
theorem E_drop {κ : Nat → Nat} (h : Rk n R κ) (tr : ∀ x y z, R x y = true → R y z = true → R x z = true) {x0 w : Nat} (hx : x0 < n) (hw : w < n) (fw : F w = true) (r : R w x0 = true) (top : ∀ y, y < n → F y = true → R y x0 = true → y = w ∨ R y w = true) (ir : ∀ x, ¬ R x x = true) : E n R F = E n R fun y => F y && !decide (y = x0) := by
  by_cases f0 : F x0 = true
  · have z : sy n R F x0 = 0 := by
      rw [sy_rec h hx, if_pos f0]
      have e : si n (fun x => if R x x0 = true then sy n R F x else 0) = si n (fun x => (if x = w then sy n R F x else 0) + (if R x w = true then sy n R F x else 0)) := si_congr fun x hx => by
        by_cases c : R x x0 = true
        · rw [if_pos c]
          by_cases f : F x = true
          · rcases top x hx f c with q | q
            · rw [if_pos q, q, if_neg (ir w), Int.add_zero]
            · rw [if_pos q, if_neg fun e => ir w (by rw [e] at q; exact q), Int.zero_add]
          · rw [sy_not f]
            split <;> split <;> rfl
        · rw [if_neg c, if_neg fun e => c (by rw [e]; exact r), if_neg fun e => c (tr x w x0 e r)]
          rfl
      rw [e, si_add, si_one, if_pos hw, sy_rec h hw, if_pos fw]
      omega
    rw [E_sy, E_sy]
    refine si_congr fun y hy => ?_
    refine sy_uniq (F := fun y => F y && !decide (y = x0)) h (fun y hy => ?_) y hy
    by_cases c : y = x0
    · rw [c, z, decide_eq_true rfl, Bool.not_true, Bool.and_false]
      rfl
    · rw [sy_rec h hy, decide_eq_false c, Bool.not_false, Bool.and_true]
  · have : (fun y => F y && !decide (y = x0)) = F := funext fun y => by
      by_cases c : y = x0
      · rw [c, Bool.eq_false_iff.mpr f0]
        rfl
      · rw [decide_eq_false c, Bool.not_false, Bool.and_true]
    rw [this]
theorem su_mul {c m : Nat} {f : Nat → Nat} : c * su m f = su m fun x => c * f x := by
  induction m with
  | zero => rfl
  | succ m ih =>
    show c * (su m f + f m) = su m (fun x => c * f x) + c * f m
    rw [Nat.mul_add, ih]
theorem su_swap {m k : Nat} {f : Nat → Nat → Nat} : su m (fun x => su k fun y => f x y) = su k fun y => su m fun x => f x y := by
  induction m with
  | zero => exact (su_zero fun _ _ => rfl).symm
  | succ m ih =>
    show su m (fun x => su k fun y => f x y) + su k (fun y => f m y) = su k fun y => su m (fun x => f x y) + f m y
    rw [ih, ← su_add]
theorem T_op {k : Nat} : T n (fun x y => R y x) F k = T n R F k := by
  have st : ∀ j k, su n (fun y => N n (fun x y => R y x) F k y * N n R F (j + 1) y) = su n (fun x => N n (fun x y => R y x) F (k + 1) x * N n R F j x) := fun j k => by
    have a : ∀ y, y < n → N n (fun x y => R y x) F k y * N n R F (j + 1) y = su n (fun x => if R x y = true then N n (fun x y => R y x) F k y * N n R F j x else 0) := fun y _ => by
      by_cases f : F y = true
      · rw [show N n R F (j + 1) y = su n (fun x => if R x y = true then N n R F j x else 0) from if_pos f, su_mul]
        refine su_congr fun x _ => ?_
        split
        · rfl
        · rfl
      · rw [N_F f, Nat.zero_mul]
        refine (su_zero fun x _ => ?_).symm
        split
        · exact Nat.zero_mul _
        · rfl
    have b : ∀ x, x < n → N n (fun x y => R y x) F (k + 1) x * N n R F j x = su n (fun y => if R x y = true then N n (fun x y => R y x) F k y * N n R F j x else 0) := fun x _ => by
      by_cases f : F x = true
      · rw [show N n (fun x y => R y x) F (k + 1) x = su n (fun y => if R x y = true then N n (fun x y => R y x) F k y else 0) from if_pos f, Nat.mul_comm, su_mul]
        refine su_congr fun y _ => ?_
        split
        · exact Nat.mul_comm ..
        · rfl
      · rw [N_F (R := R) f, Nat.mul_zero]
        refine (su_zero fun y _ => ?_).symm
        split
        · exact Nat.mul_zero _
        · rfl
    rw [su_congr a, su_congr b, su_swap]
  have go : ∀ j k, su n (fun y => N n (fun x y => R y x) F k y * N n R F j y) = su n (fun y => N n (fun x y => R y x) F (k + j) y * N n R F 0 y) := by
    intro j
    induction j with
    | zero => exact fun k => rfl
    | succ j ih =>
      intro k
      rw [st, ih, show k + 1 + j = k + (j + 1) by omega]
  have := go k 0
  rw [Nat.zero_add] at this
  unfold T
  rw [show su n (N n (fun x y => R y x) F k) = su n (fun y => N n (fun x y => R y x) F k y * N n R F 0 y) from su_congr fun y _ => by
    by_cases f : F y = true
    · rw [show N n R F 0 y = 1 from if_pos f, Nat.mul_one]
    · rw [N_F f, Nat.zero_mul], ← this]
  refine su_congr fun y _ => ?_
  by_cases f : F y = true
  · rw [show N n (fun x y => R y x) F 0 y = 1 from if_pos f, Nat.one_mul]
  · rw [N_F (R := R) f, Nat.mul_zero]
theorem E_op : E n (fun x y => R y x) F = E n R F := si_congr fun k _ => by rw [T_op]
end
end Mi.ch
set_option maxHeartbeats 2000000
namespace Mi.k59
open PySem L2 ch
theorem srtPP_ord {l : List (Nat × Nat)} : (srtPP l).Pairwise fun p q => p.1 < q.1 ∨ (p.1 = q.1 ∧ p.2 ≤ q.2) := by
  unfold srtPP
  rw [List.pairwise_map]
  have pm := srtB_perm (le := leP) (l.map fun q => ((q.1 : Int), (q.2 : Int)))
  refine (srtB_srt leP_tot leP_tr _).imp_of_mem fun {p q} hp hq h => ?_
  obtain ⟨a, _, rfl⟩ := List.mem_map.mp (pm.mem_iff.mp hp)
  obtain ⟨b, _, rfl⟩ := List.mem_map.mp (pm.mem_iff.mp hq)
  have h : (a.1 : Int) < (b.1 : Int) ∨ ((a.1 : Int) = (b.1 : Int) ∧ (a.2 : Int) ≤ (b.2 : Int)) := leP_iff.mp h
  show (a.1 : Int).toNat < (b.1 : Int).toNat ∨ ((a.1 : Int).toNat = (b.1 : Int).toNat ∧ (a.2 : Int).toNat ≤ (b.2 : Int).toNat)
  omega
theorem rep_map {m v : Nat} : (List.replicate m [v]).flatten = (List.range m).map fun _ => v := by
  induction m with
  | zero => rfl
  | succ m ih =>
    rw [List.replicate_succ, List.flatten_cons, ih, List.range_succ_eq_map, List.map_cons, List.map_map]
    rfl
theorem range_get {m : Nat} {g : Nat → Nat} {j : Nat} (hj : j < m) : ((List.range m).map g)[j]? = some (g j) := by
  rw [List.getElem?_map, List.getElem?_range hj]
  rfl
theorem inner_ok {m : Nat} {ps : List (Nat × Nat)} (hp : ∀ p ∈ ps, p.1 < m ∧ p.2 < m) (g : Nat → Nat) (c : List Nat) : forO (tb1_chain_counts ((List.range m).map g, c)) ps (List.replicate m [0]).flatten = some ((List.range m).map fun j => ((ps.filter fun p => decide (p.2 = j)).map fun p => g p.1).sum) := by
  obtain ⟨q, e, l, h⟩ := forO_inv (f := tb1_chain_counts ((List.range m).map g, c)) (xs := ps) (a0 := (List.replicate m [0]).flatten) (fun i q => q.length = m ∧ ∀ j, j < m → q[j]? = some (((ps.take i).filter fun p => decide (p.2 = j)).map fun p => g p.1).sum) ⟨zs_len, fun j hj => by
    rw [rep_map, range_get hj]
    rfl⟩ fun i p q hx ⟨l, h⟩ => by
    obtain ⟨h1, h2⟩ := hp p (List.mem_of_getElem? hx)
    unfold tb1_chain_counts
    rw [h p.2 h2, Option.bind_some, show ((List.range m).map g, c).1[p.1]? = some (g p.1) from range_get h1, Option.bind_some, gd_ok (by omega), lett_is]
    have tk : ps.take (i + 1) = ps.take i ++ [p] := by
      rw [List.take_succ, hx]
      rfl
    refine ⟨_, rfl, by rw [List.length_set]; exact l, fun j hj => ?_⟩
    rw [tk, List.filter_append, List.map_append, List.sum_append]
    by_cases c : p.2 = j
    · subst c
      rw [List.getElem?_set_self (by omega), List.filter_cons_of_pos (p := fun q : Nat × Nat => decide (q.2 = p.2)) (decide_eq_true rfl)]
      simp
    · rw [List.getElem?_set_ne c, h j hj, List.filter_cons_of_neg (p := fun q : Nat × Nat => decide (q.2 = j)) (by rw [decide_eq_false c]; decide)]
      simp
  rw [e]
  congr 1
  apply List.ext_getElem?
  intro j
  by_cases hj : j < m
  · rw [h j hj, range_get hj, List.take_length]
  · rw [List.getElem?_eq_none (by omega), List.getElem?_eq_none (by rw [List.length_map, List.length_range]; omega)]
theorem chain_counts_ok {m n : Nat} {ps : List (Nat × Nat)} {R : Nat → Nat → Bool} {F : Nat → Bool} {lab : Nat → Nat} (h : Lab m ps n R F lab) (up : ∀ x y, R x y = true → x < y) (hm : m ≤ 400000) (hn : n ≤ 400000) : ∃ K, t_chain_counts (m, ps) = some ((List.range K).map (ch.T n R F)) ∧ ch.T n R F K = 0 := by
  have hp : ∀ p ∈ ps, p.1 < m ∧ p.2 < m := fun p q => ⟨((h.mem p).mp q).1, ((h.mem p).mp q).2.1⟩
  have sm : ∀ k, ((List.range m).map fun j => N n R F k (lab j)).sum = ch.T n R F k := fun k => su_list.trans h.all
  unfold t_chain_counts
  rw [gd_ok (by show 1 * m ≤ _; omega), gd_ok hm, lett_is]
  obtain ⟨q, e, ⟨k, e1, e2⟩, cf⟩ := whO_inv (c := tb2_chain_counts) (f := tb3_chain_counts (m, ps)) (n := 1000000) (a0 := ((List.replicate m [1]).flatten, [])) (fun q => ∃ k, q.1 = ((List.range m).map fun j => N n R F k (lab j)) ∧ q.2 = (List.range k).map (ch.T n R F)) (fun q => n + 1 - q.2.length) (fun q ⟨k, e1, e2⟩ => by
    refine ⟨_, rfl, fun c => ?_⟩
    have c := of_decide_eq_true c
    rw [e1, sm] at c
    have kn : k < n := by
      rcases Nat.lt_or_ge k n with z | z
      · exact z
      · rw [T_top up z] at c
        exact absurd c (Nat.lt_irrefl _)
    have l2 : q.2.length = k := by rw [e2, List.length_map, List.length_range]
    unfold tb3_chain_counts
    obtain ⟨a, b⟩ := q
    have e1 : a = _ := e1
    have e2 : b = _ := e2
    have l2 : b.length = k := l2
    rw [gd_ok (by show b.length ≤ _; omega), lett_is, gd_ok (by show 1 * m ≤ _; omega), gd_ok hm, lett_is, e1, show (m, ps).1 = m from rfl, show (m, ps).2 = ps from rfl, inner_ok hp (fun j => N n R F k (lab j)) b]
    refine ⟨_, rfl, ⟨k + 1, ?_, ?_⟩, ?_⟩
    · refine List.map_congr_left fun j hj => ?_
      exact h.next (List.mem_range.mp hj)
    · show b ++ [((List.range m).map fun j => N n R F k (lab j)).sum] = _
      rw [sm, e2, List.range_succ, List.map_append]
      rfl
    · show n + 1 - (b ++ [((List.range m).map fun j => N n R F k (lab j)).sum]).length < n + 1 - b.length
      rw [List.length_append]
      show n + 1 - (b.length + 1) < _
      omega) ⟨0, by
      show (List.replicate m [1]).flatten = _
      rw [rep_map]
      refine List.map_congr_left fun j hj => ?_
      show 1 = if F (lab j) = true then 1 else 0
      rw [if_pos (h.inn j (List.mem_range.mp hj)).2], rfl⟩ (by show n + 1 - 0 < 1000000; omega)
  rw [lpB_nx e]
  refine ⟨k, by rw [e2], ?_⟩
  have cf : some (decide (0 < q.1.sum)) = some false := cf
  rw [e1, sm] at cf
  have := of_decide_eq_false (Option.some.inj cf)
  omega
theorem euler_ok {m n : Nat} {ps : List (Nat × Nat)} {R : Nat → Nat → Bool} {F : Nat → Bool} {lab : Nat → Nat} (h : Lab m ps n R F lab) (up : ∀ x y, R x y = true → x < y) (hm : m ≤ 400000) (hn : n ≤ 400000) : t_euler (m, ps) = some (E n R F) := by
  obtain ⟨K, e, z⟩ := chain_counts_ok h up hm hn
  unfold t_euler
  rw [e, Option.bind_some, ← E_alt up z]
  rfl
structure SU (n : Nat) (T : List (List Bool)) : Prop where
  mt : Mat n T
  up : ∀ x y, ent T x y = true → x < y
  tr : ∀ x y z, ent T x y = true → ent T y z = true → ent T x z = true
def prd (n : Nat) (T : List (List Bool)) (x : Nat) : List Nat := (List.range n).filter fun y => ent T y x
theorem prd_lt {n : Nat} {T : List (List Bool)} (h : SU n T) {z x : Nat} (e : ent T z x = true) : (prd n T z).length < (prd n T x).length := by
  have nd : (z :: prd n T z).Nodup := List.nodup_cons.mpr ⟨fun q => absurd (h.up z z (List.mem_filter.mp q).2) (Nat.lt_irrefl _), List.Pairwise.filter _ List.nodup_range⟩
  have := ml.sub_len nd (m := prd n T x) fun y hy => by
    rcases List.mem_cons.mp hy with rfl | q
    · exact List.mem_filter.mpr ⟨List.mem_range.mpr (ent_lt h.mt e).1, e⟩
    · obtain ⟨a, b⟩ := List.mem_filter.mp q
      exact List.mem_filter.mpr ⟨a, h.tr y z x b e⟩
  rw [List.length_cons] at this
  omega
end Mi.k59
set_option maxHeartbeats 2000000
namespace Mi.k59
open PySem L2 ch
theorem idx_at {L : List Nat} {n : Nat} (hL : L.Perm (List.range n)) {j : Nat} (hj : j < n) : L.idxOf j < n ∧ L[L.idxOf j]? = some j := by
  have m : j ∈ L := hL.mem_iff.mpr (List.mem_range.mpr hj)
  have l := List.idxOf_lt_length_of_mem m
  refine ⟨by rw [hL.length_eq, List.length_range] at l; exact l, ?_⟩
  rw [List.getElem?_eq_getElem l, List.getElem_idxOf]
theorem idx_of {L : List Nat} {n : Nat} (hL : L.Perm (List.range n)) {x v : Nat} (e : L[x]? = some v) : L.idxOf v = x := by
  have nd : L.Nodup := hL.nodup_iff.mpr List.nodup_range
  obtain ⟨hx, e2⟩ := List.getElem?_eq_some_iff.mp e
  rw [← e2]
  exact nd.idxOf_getElem x hx
theorem nm_at {L : List Nat} {n : Nat} (hL : L.Perm (List.range n)) {x : Nat} (hx : x < n) : L[x]? = some (L[x]?.getD 0) ∧ L[x]?.getD 0 < n ∧ L.idxOf (L[x]?.getD 0) = x := by
  have hl : x < L.length := by rw [hL.length_eq, List.length_range]; exact hx
  have e := List.getElem?_eq_getElem hl
  rw [e]
  exact ⟨rfl, List.mem_range.mp (hL.mem_iff.mp (List.getElem_mem hl)), idx_of hL e⟩
theorem told_ok {n : Nat} (hn : n ≤ 64) {T : List (List Bool)} (h : SU n T) {L : List Nat} (hL : L.Perm (List.range n)) : ∃ ps, t_law_told T L = some (n, ps) ∧ ps.length ≤ 400000 ∧ ∀ F : Nat → Bool, (∀ x, x < n → F x = true) → Lab n ps n (ent T) F (fun j => L.idxOf j) := by
  unfold t_law_told
  rw [h.mt.1, gd_ok (by omega)]
  obtain ⟨q, e, m, nd, ln⟩ := forO_rng (f := tb1_law_told T L) (n := n) (a0 := []) (fun i q => (∀ p : Nat × Nat, p ∈ q ↔ p.1 < n ∧ p.2 < n ∧ L.idxOf p.1 < i ∧ ent T (L.idxOf p.1) (L.idxOf p.2) = true) ∧ q.Nodup ∧ q.length ≤ i * n) ⟨fun p => ⟨fun h => (nomatch h), fun h => absurd h.2.2.1 (Nat.not_lt_zero _)⟩, List.nodup_nil, Nat.zero_le _⟩ fun x q hx ⟨m, nd, ln⟩ => by
    obtain ⟨r, er, _, gr⟩ := h.mt.row hx
    obtain ⟨ex, bx, ix⟩ := nm_at hL hx
    unfold tb1_law_told
    rw [h.mt.1, gd_ok (by omega), gd_ok (by rw [List.length_range]; omega), lcO_eq (c1 := fun y => ent T x y) (v1 := fun y => (L[x]?.getD 0, L[y]?.getD 0)) fun y hy => by
      have hy := List.mem_range.mp hy
      exact ⟨by rw [er, Option.bind_some, gr y hy]; rfl, fun _ => by rw [ex, Option.bind_some, (nm_at hL hy).1]; rfl⟩]
    obtain ⟨A, hA⟩ : ∃ A, A = ((List.range n).filter fun y => ent T x y).map fun y => (L[x]?.getD 0, L[y]?.getD 0) := ⟨_, rfl⟩
    have al : A.length ≤ n := by
      rw [hA, List.length_map]
      have := List.length_filter_le (fun y => ent T x y) (List.range n)
      rwa [List.length_range] at this
    have am : ∀ p : Nat × Nat, p ∈ A ↔ p.1 < n ∧ p.2 < n ∧ L.idxOf p.1 = x ∧ ent T x (L.idxOf p.2) = true := fun p => by
      rw [hA, List.mem_map]
      constructor
      · rintro ⟨y, hy, rfl⟩
        obtain ⟨a, b⟩ := List.mem_filter.mp hy
        obtain ⟨ey, by_, iy⟩ := nm_at hL (List.mem_range.mp a)
        exact ⟨bx, by_, ix, by show ent T x (L.idxOf (L[y]?.getD 0)) = true; rw [iy]; exact b⟩
      · rintro ⟨a, b, c, d⟩
        obtain ⟨i1, i2⟩ := idx_at hL a
        obtain ⟨i3, i4⟩ := idx_at hL b
        refine ⟨L.idxOf p.2, List.mem_filter.mpr ⟨List.mem_range.mpr i3, d⟩, ?_⟩
        rw [i4, ← c, i2]
        rfl
    have l6 : x * n ≤ 64 * 64 := Nat.mul_le_mul (by omega) hn
    rw [Option.bind_some, ← hA, gd_ok (by omega), lett_is]
    refine ⟨_, rfl, fun p => ?_, ?_, ?_⟩
    · rw [List.mem_append, m, am]
      constructor
      · rintro (⟨a, b, c, d⟩ | ⟨a, b, c, d⟩)
        · exact ⟨a, b, by omega, d⟩
        · exact ⟨a, b, by omega, by rw [c]; exact d⟩
      · rintro ⟨a, b, c, d⟩
        rcases Nat.lt_succ_iff_lt_or_eq.mp c with c | c
        · exact .inl ⟨a, b, c, d⟩
        · exact .inr ⟨a, b, c, by rw [← c]; exact d⟩
    · refine List.nodup_append.mpr ⟨nd, ?_, fun a ha b hb eq => ?_⟩
      · rw [hA]
        refine nd_map (List.Pairwise.filter _ List.nodup_range) fun y hy z hz eq => ?_
        have := (Prod.mk.inj eq).2
        rw [← (nm_at hL (List.mem_range.mp (List.mem_filter.mp hy).1)).2.2, ← (nm_at hL (List.mem_range.mp (List.mem_filter.mp hz).1)).2.2, this]
      · have := ((m a).mp ha).2.2.1
        rw [eq, ((am b).mp hb).2.2.1] at this
        exact Nat.lt_irrefl _ this
    · rw [List.length_append, Nat.succ_mul]
      omega
  rw [e, Option.bind_some]
  have pm := srtPP_perm (l := q)
  have l7 : n * n ≤ 64 * 64 := Nat.mul_le_mul hn hn
  refine ⟨_, rfl, by rw [pm.length_eq]; omega, fun F hF => ⟨fun j hj => ⟨(idx_at hL hj).1, hF _ (idx_at hL hj).1⟩, fun i j hi hj eq => ?_, fun x hx _ => ⟨L[x]?.getD 0, (nm_at hL hx).2.1, (nm_at hL hx).2.2⟩, fun p => ?_, pm.nodup_iff.mpr nd⟩⟩
  · have a := (idx_at hL hi).2
    rw [show L.idxOf i = L.idxOf j from eq, (idx_at hL hj).2] at a
    exact (Option.some.inj a).symm
  · rw [pm.mem_iff, m]
    exact ⟨fun ⟨a, b, _, d⟩ => ⟨a, b, d⟩, fun ⟨a, b, d⟩ => ⟨a, b, (idx_at hL a).1, d⟩⟩
theorem dcP_find {x : Nat} : ∀ (l : List (Nat × Nat)) (d : List (Nat × Nat)), (l.map (·.2)).Nodup → dGet (dcP (fun q : Nat × Nat => q.2) (fun q : Nat × Nat => q.1) l d) x = match l.find? (fun q => decide (q.2 = x)) with
    | some q => some q.1
    | none => dGet d x
  | [], d, _ => rfl
  | q :: l, d, nd => by
    rw [List.map_cons] at nd
    obtain ⟨n1, n2⟩ := List.nodup_cons.mp nd
    show dGet (dcP (fun q : Nat × Nat => q.2) (fun q : Nat × Nat => q.1) l (dPut d q.2 q.1)) x = _
    rw [dcP_find l _ n2, List.find?_cons]
    by_cases c : q.2 = x
    · have : l.find? (fun q => decide (q.2 = x)) = none := by
        rw [List.find?_eq_none]
        intro z hz e
        exact n1 (by rw [c, ← of_decide_eq_true e]; exact List.mem_map.mpr ⟨z, hz, rfl⟩)
      rw [this, decide_eq_true c]
      show dGet (dPut d q.2 q.1) x = some q.1
      rw [dGet_put, if_pos c.symm]
    · rw [decide_eq_false c]
      dsimp only
      cases l.find? (fun q => decide (q.2 = x)) with
      | some z => rfl
      | none =>
        show dGet (dPut d q.2 q.1) x = dGet d x
        rw [dGet_put, if_neg fun e => c e.symm]
theorem enu_mem {pts : List Nat} {q : Nat × Nat} : q ∈ enu pts ↔ pts[q.1]? = some q.2 := by
  unfold enu
  rw [List.mem_map]
  constructor
  · rintro ⟨z, hz, rfl⟩
    exact List.mem_zipIdx_iff_getElem?.mp hz
  · intro h
    exact ⟨(q.2, q.1), List.mem_zipIdx_iff_getElem?.mpr h, rfl⟩
theorem enu_snd {pts : List Nat} : (enu pts).map (·.2) = pts := by
  unfold enu
  rw [List.map_map]
  exact List.zipIdx_map_fst 0 pts
theorem place_of {pts : List Nat} (nd : pts.Nodup) {x i : Nat} : dGet (dcP (fun q : Nat × Nat => q.2) (fun q : Nat × Nat => q.1) (enu pts) []) x = some i ↔ pts[i]? = some x := by
  rw [dcP_find _ _ (by rw [enu_snd]; exact nd)]
  cases e : (enu pts).find? (fun q => decide (q.2 = x)) with
  | none =>
    rw [List.find?_eq_none] at e
    constructor
    · intro h
      cases h
    · intro h
      exact absurd (decide_eq_true rfl) (e (i, x) (enu_mem.mpr h))
  | some q =>
    have a := enu_mem.mp (List.mem_of_find?_eq_some e)
    have b := of_decide_eq_true (List.find?_some (p := fun q : Nat × Nat => decide (q.2 = x)) e)
    rw [b] at a
    constructor
    · intro h
      cases h
      exact a
    · intro h
      obtain ⟨h1, e1⟩ := List.getElem?_eq_some_iff.mp a
      obtain ⟨h2, e2⟩ := List.getElem?_eq_some_iff.mp h
      have := (List.getElem_inj (h₀ := h1) (h₁ := h2) nd).mp (e1.trans e2.symm)
      rw [← this]
theorem induced_ok {n : Nat} (hn : n ≤ 64) {ps : List (Nat × Nat)} {R : Nat → Nat → Bool} {F0 F : Nat → Bool} {lab : Nat → Nat} (h : Lab n ps n R F0 lab) (hF0 : ∀ x, x < n → F0 x = true) (hl : ps.length ≤ 400000) {pts : List Nat} (nd : pts.Nodup) (hp : ∀ j, j ∈ pts ↔ j < n ∧ F (lab j) = true) : ∃ ps2, t_induced (n, ps) pts = some (pts.length, ps2) ∧ Lab pts.length ps2 n R F (fun i => lab (pts[i]?.getD 0)) := by
  have ln : pts.length ≤ n := by
    have := ml.sub_len nd (m := List.range n) fun j hj => List.mem_range.mpr ((hp j).mp hj).1
    rwa [List.length_range] at this
  unfold t_induced
  obtain ⟨D, hD⟩ : ∃ D, D = dcP (fun q : Nat × Nat => q.2) (fun q : Nat × Nat => q.1) (enu pts) [] := ⟨_, rfl⟩
  have pl : ∀ x i, dGet D x = some i ↔ pts[i]? = some x := fun x i => by rw [hD]; exact place_of nd
  rw [gd_ok (by
    show (enu pts).length ≤ 400000
    unfold enu
    rw [List.length_map, List.length_zipIdx]
    omega), lett_is, ← hD, gd_ok hl, show (n, ps).2 = ps from rfl, lcO_eq (xs := ps) (c1 := fun p : Nat × Nat => (dGet D p.1).isSome && (dGet D p.2).isSome) (v1 := fun p : Nat × Nat => ((dGet D p.1).getD 0, (dGet D p.2).getD 0)) fun p _ => ⟨rfl, fun c => by
      obtain ⟨c1, c2⟩ := Bool.and_eq_true_iff.mp c
      obtain ⟨i, ei⟩ := Option.isSome_iff_exists.mp c1
      obtain ⟨j, ej⟩ := Option.isSome_iff_exists.mp c2
      rw [ei, ej]
      rfl⟩, Option.bind_some]
  have pg : ∀ i, i < pts.length → pts[i]? = some (pts[i]?.getD 0) ∧ pts[i]?.getD 0 < n ∧ F (lab (pts[i]?.getD 0)) = true := fun i hi => by
    have e := List.getElem?_eq_getElem hi
    rw [e]
    exact ⟨rfl, (hp _).mp (List.getElem_mem hi)⟩
  have pi : ∀ i j, i < pts.length → j < pts.length → pts[i]?.getD 0 = pts[j]?.getD 0 → i = j := fun i j hi hj e => by
    rw [List.getElem?_eq_getElem hi, List.getElem?_eq_getElem hj] at e
    exact (List.getElem_inj (h₀ := hi) (h₁ := hj) nd).mp e
  refine ⟨_, rfl, fun i hi => ⟨(h.inn _ (pg i hi).2.1).1, (pg i hi).2.2⟩, fun i j hi hj e => pi i j hi hj (h.inj _ _ (pg i hi).2.1 (pg j hj).2.1 e), fun x hx fx => ?_, fun p => ?_, ?_⟩
  · obtain ⟨j, hj, rfl⟩ := h.sur x hx (hF0 x hx)
    obtain ⟨i, hi, e⟩ := List.getElem_of_mem ((hp j).mpr ⟨hj, fx⟩)
    exact ⟨i, hi, by rw [List.getElem?_eq_getElem hi, e]; rfl⟩
  · rw [List.mem_map]
    constructor
    · rintro ⟨z, hz, rfl⟩
      obtain ⟨z1, z2⟩ := List.mem_filter.mp hz
      obtain ⟨c1, c2⟩ := Bool.and_eq_true_iff.mp z2
      obtain ⟨i, ei⟩ := Option.isSome_iff_exists.mp c1
      obtain ⟨j, ej⟩ := Option.isSome_iff_exists.mp c2
      have gi := (pl _ _).mp ei
      have gj := (pl _ _).mp ej
      rw [ei, ej]
      show i < pts.length ∧ j < pts.length ∧ R (lab (pts[i]?.getD 0)) (lab (pts[j]?.getD 0)) = true
      rw [gi, gj]
      exact ⟨(List.getElem?_eq_some_iff.mp gi).1, (List.getElem?_eq_some_iff.mp gj).1, ((h.mem z).mp z1).2.2⟩
    · rintro ⟨a, b, c⟩
      obtain ⟨g1, g2, _⟩ := pg p.1 a
      obtain ⟨g3, g4, _⟩ := pg p.2 b
      have e1 := (pl _ _).mpr g1
      have e2 := (pl _ _).mpr g3
      refine ⟨(pts[p.1]?.getD 0, pts[p.2]?.getD 0), List.mem_filter.mpr ⟨(h.mem _).mpr ⟨g2, g4, c⟩, ?_⟩, ?_⟩
      · show ((dGet D (pts[p.1]?.getD 0)).isSome && (dGet D (pts[p.2]?.getD 0)).isSome) = true
        rw [e1, e2]
        rfl
      · show ((dGet D (pts[p.1]?.getD 0)).getD 0, (dGet D (pts[p.2]?.getD 0)).getD 0) = p
        rw [e1, e2]
        rfl
  · refine nd_map (List.Pairwise.filter _ h.nd) fun z hz y hy e => ?_
    obtain ⟨_, z2⟩ := List.mem_filter.mp hz
    obtain ⟨_, y2⟩ := List.mem_filter.mp hy
    obtain ⟨c1, c2⟩ := Bool.and_eq_true_iff.mp z2
    obtain ⟨c3, c4⟩ := Bool.and_eq_true_iff.mp y2
    obtain ⟨i, ei⟩ := Option.isSome_iff_exists.mp c1
    obtain ⟨j, ej⟩ := Option.isSome_iff_exists.mp c2
    obtain ⟨k, ek⟩ := Option.isSome_iff_exists.mp c3
    obtain ⟨l, el⟩ := Option.isSome_iff_exists.mp c4
    rw [ei, ej, ek, el] at e
    obtain ⟨e1, e2⟩ := Prod.mk.inj e
    have e1 : i = k := e1
    have e2 : j = l := e2
    subst e1
    subst e2
    have a1 := (pl _ _).mp ei
    rw [(pl _ _).mp ek] at a1
    have a2 := (pl _ _).mp ej
    rw [(pl _ _).mp el] at a2
    exact Prod.ext (Option.some.inj a1).symm (Option.some.inj a2).symm
theorem fixed_ok {n : Nat} (hn : n ≤ 400000) {ps : List (Nat × Nat)} {row : List Nat} (l : row.length = n) : t_fixed_points (n, ps) row = some ((List.range n).filter fun x => decide (row[x]?.getD 0 = x)) := by
  unfold t_fixed_points
  rw [gd_ok hn, gd_ok (by rw [List.length_range]; exact hn), show (n, ps).1 = n from rfl, lcO_eq (c1 := fun x => decide (row[x]?.getD 0 = x)) (v1 := fun x => x) fun x hx => by
    have hl : x < row.length := by rw [l]; exact List.mem_range.mp hx
    rw [List.getElem?_eq_getElem hl]
    exact ⟨rfl, fun _ => rfl⟩, List.map_id']
  rfl
theorem named_ok {n : Nat} (hn : n ≤ 64) {L : List Nat} (hL : L.Perm (List.range n)) {row : List Nat} (hr : Row n n row) : ∃ t, t_law_named L row = some t ∧ t.length = n ∧ ∀ j, j < n → t[j]? = some (L[row[L.idxOf j]?.getD 0]?.getD 0) := by
  unfold t_law_named
  rw [hr.1, gd_ok (by show 1 * n ≤ _; omega), gd_ok (by omega), lett_is, gd_ok (by omega)]
  obtain ⟨q, e, l, h⟩ := forO_rng (f := tb1_law_named L row) (n := n) (a0 := (List.replicate n [0]).flatten) (fun i q => q.length = n ∧ ∀ j, j < n → L.idxOf j < i → q[j]? = some (L[row[L.idxOf j]?.getD 0]?.getD 0)) ⟨zs_len, fun j _ h => absurd h (Nat.not_lt_zero _)⟩ fun x q hx ⟨l, h⟩ => by
    obtain ⟨e1, b1⟩ := hr.get hx
    obtain ⟨e2, _, _⟩ := nm_at hL b1
    obtain ⟨e3, b3, i3⟩ := nm_at hL hx
    unfold tb1_law_named
    rw [e1, Option.bind_some, e2, Option.bind_some, e3, Option.bind_some, gd_ok (by omega), lett_is]
    refine ⟨_, rfl, by rw [List.length_set]; exact l, fun j hj hi => ?_⟩
    by_cases c : L[x]?.getD 0 = j
    · rw [c, List.getElem?_set_self (by omega)]
      rw [c] at i3
      rw [i3]
    · rw [List.getElem?_set_ne c]
      refine h j hj ?_
      rcases Nat.lt_succ_iff_lt_or_eq.mp hi with z | z
      · exact z
      · exact absurd (by rw [← z, (idx_at hL hj).2]; rfl) c
  rw [e]
  exact ⟨_, rfl, l, fun j hj => h j hj (idx_at hL hj).1⟩
end Mi.k59
set_option maxHeartbeats 2000000
namespace Mi.k59
open PySem L2 ch
theorem srtN_ord {l : List Nat} : (srtN l).Pairwise (· ≤ ·) := by
  unfold srtN
  rw [List.pairwise_map]
  have pm := srtB_perm (le := leI) (l.map fun k : Nat => (k : Int))
  refine (srtB_srt (le := leI) (fun a b => ?_) (fun a b d h1 h2 => ?_) _).imp_of_mem fun {p q} hp hq h => ?_
  · rcases Int.le_total a b with h | h
    · exact .inl (decide_eq_true h)
    · exact .inr (decide_eq_true h)
  · have := of_decide_eq_true h1
    have := of_decide_eq_true h2
    exact decide_eq_true (by omega)
  · have := of_decide_eq_true h
    omega
abbrev nint : Nat → PV := fun (q : Nat) => (PV.int ((q : Nat) : Int))
theorem sm_row : ∀ xs : List Nat, sms 7 (xs.map nint) = true
  | [] => by simp [sms]
  | x :: xs => by
    show sms 7 (nint x :: xs.map nint) = true
    unfold sms
    rw [sm_row xs]
    simp [sm]
theorem same_row {xs ys : List Nat} (e : xs = ys) (l : xs.length ≤ 400000) : same_t (.tup (xs.map nint)) (.tup (ys.map nint)) = some true := by
  subst e
  refine same_ok rfl ?_
  unfold sm
  rw [sm_row, List.length_map, decide_eq_true l]
  rfl
theorem same_int {i j : Int} (e : i = j) : same_t (.int i) (.int j) = some true := same_ok (by rw [e]) (by simp [sm])
theorem srt_same {l m : List Nat} (hl : l.Pairwise (· < ·)) (hm : m.Nodup) (h : ∀ x, x ∈ l ↔ x ∈ m) : l = srtN m := by
  have pm := srtN_perm (l := m)
  refine srt_uniq (le := fun a b => decide (a ≤ b)) (fun a b h1 h2 => Nat.le_antisymm (of_decide_eq_true h1) (of_decide_eq_true h2)) (fun a => decide_eq_true (Nat.le_refl a)) (hl.imp fun h => decide_eq_true (Nat.le_of_lt h)) (srtN_ord.imp fun h => decide_eq_true h) ?_
  refine (List.perm_ext_iff_of_nodup (hl.imp fun h => Nat.ne_of_lt h) (pm.nodup_iff.mpr hm)).mpr fun x => ?_
  rw [h, pm.mem_iff]
theorem lef_ok {n : Nat} (hn : n ≤ 64) {ps : List (Nat × Nat)} {R : Nat → Nat → Bool} {F : Nat → Bool} {lab : Nat → Nat} (up : ∀ x y, R x y = true → x < y) (h : Lab n ps n R (fun _ => true) lab) (hl : ps.length ≤ 400000) {row : List Nat} (l : row.length = n) (hf : ∀ j, j < n → (row[j]?.getD 0 = j ↔ F (lab j) = true)) : t_lefschetz (n, ps) row = some (E n R F) := by
  unfold t_lefschetz
  rw [fixed_ok (by omega) l, Option.bind_some]
  obtain ⟨ps2, e, h2⟩ := induced_ok (F := F) hn h (fun _ _ => rfl) hl (pts := (List.range n).filter fun x => decide (row[x]?.getD 0 = x)) (List.Pairwise.filter _ List.nodup_range) fun j => by
    rw [List.mem_filter, List.mem_range, decide_eq_true_iff]
    exact ⟨fun ⟨a, b⟩ => ⟨a, (hf j a).mp b⟩, fun ⟨a, b⟩ => ⟨a, (hf j a).mpr b⟩⟩
  have fl := List.length_filter_le (fun x => decide (row[x]?.getD 0 = x)) (List.range n)
  rw [List.length_range] at fl
  rw [e, Option.bind_some, euler_ok h2 up (by omega) (by omega)]
  rfl
theorem so_su {n : Nat} {T : List (List Bool)} (h : SO n T) : SU n T := ⟨h.mt, h.ir, h.tr⟩
end Mi.k59
set_option maxHeartbeats 2000000
namespace Mi.ch
section
variable {n : Nat} {f : Nat → Nat}
def fxd (f : Nat → Nat) (y : Nat) : Bool := decide (f y = y)
structure Ord (n : Nat) (Q : Nat → Nat → Bool) (κ : Nat → Nat) : Prop where
  rk : Rk n Q κ
  tr : ∀ x y z, Q x y = true → Q y z = true → Q x z = true
  ir : ∀ x, ¬ Q x x = true
  inb : ∀ x y, Q x y = true → x < n ∧ y < n
def Mono (Q : Nat → Nat → Bool) (f : Nat → Nat) : Prop := ∀ y z, Q y z = true → f y = f z ∨ Q (f y) (f z) = true
theorem top_fix {Q : Nat → Nat → Bool} {κ : Nat → Nat} (o : Ord n Q κ) (m : Mono Q f) : ∀ k a, κ a < k → (f a = a ∨ Q (f a) a = true) → ∃ w, f w = w ∧ (w = a ∨ Q w a = true) ∧ ∀ y, f y = y → (y = a ∨ Q y a = true) → (y = w ∨ Q y w = true)
  | 0, _, h, _ => absurd h (Nat.not_lt_zero _)
  | k + 1, a, hk, h => by
    rcases h with h | h
    · exact ⟨a, h, .inl rfl, fun y _ q => q⟩
    · obtain ⟨b1, b2⟩ := o.inb _ _ h
      have lt := o.rk.1 _ _ b1 b2 h
      have hb : f (f a) = f a ∨ Q (f (f a)) (f a) = true := m _ _ h
      obtain ⟨w, w1, w2, w3⟩ := top_fix o m k (f a) (by omega) hb
      refine ⟨w, w1, ?_, fun y hy q => ?_⟩
      · rcases w2 with w2 | w2
        · exact .inr (by rw [w2]; exact h)
        · exact .inr (o.tr _ _ _ w2 h)
      · refine w3 y hy ?_
        rcases q with q | q
        · subst q
          rw [hy] at h
          exact absurd h (o.ir y)
        · have := m _ _ q
          rwa [hy] at this
theorem fix_step {Q : Nat → Nat → Bool} {κ : Nat → Nat} (o : Ord n Q κ) (m : Mono Q f) {x : Nat} (h : Q (f x) x = true) : E n Q (fun y => fxd f y || decide (y = x)) = E n Q (fxd f) := by
  obtain ⟨hu, hx⟩ := o.inb _ _ h
  obtain ⟨w, w1, w2, w3⟩ := top_fix o m (κ (f x) + 1) (f x) (Nat.lt_succ_self _) (m _ _ h)
  have wx : Q w x = true := by
    rcases w2 with w2 | w2
    · rw [w2]; exact h
    · exact o.tr _ _ _ w2 h
  have nx : ¬ f x = x := fun e => by
    rw [e] at h
    exact o.ir x h
  rw [E_drop (F := fun y => fxd f y || decide (y = x)) o.rk o.tr hx (o.inb _ _ wx).1 (by
    show (fxd f w || decide (w = x)) = true
    unfold fxd
    rw [decide_eq_true w1]
    rfl) wx (fun y hy fy q => ?_) o.ir]
  · congr 1
    funext y
    unfold fxd
    by_cases c : y = x
    · rw [c, decide_eq_false nx, decide_eq_true rfl]
      rfl
    · rw [decide_eq_false c, Bool.or_false, Bool.not_false, Bool.and_true]
  · have fy : f y = y := by
      have fy : (fxd f y || decide (y = x)) = true := fy
      rcases Bool.or_eq_true_iff.mp fy with a | a
      · exact of_decide_eq_true a
      · rw [of_decide_eq_true a] at q
        exact absurd q (o.ir x)
    refine w3 y fy ?_
    have := m _ _ q
    rwa [fy] at this
theorem Ord.op {R : Nat → Nat → Bool} (o : Ord n R id) : Ord n (fun x y => R y x) fun y => n - 1 - y := ⟨⟨fun x y hx hy h => by
  have : y < x := o.rk.1 _ _ hy hx h
  show n - 1 - x < n - 1 - y
  omega, fun y hy => by show n - 1 - y < n; omega⟩, fun x y z a b => o.tr _ _ _ b a, fun x => o.ir x, fun x y h => (o.inb _ _ h).symm⟩
theorem fix_any {R : Nat → Nat → Bool} (o : Ord n R id) (m : Mono R f) {x : Nat} (h : R (f x) x = true ∨ R x (f x) = true) : E n R (fun y => fxd f y || decide (y = x)) = E n R (fxd f) := by
  rcases h with h | h
  · exact fix_step o m h
  · have m2 : Mono (fun x y => R y x) f := fun y z q => by
      rcases m _ _ q with a | a
      · exact .inl a.symm
      · exact .inr a
    have := fix_step o.op m2 (x := x) h
    have e1 : E n (fun x y => R y x) (fun y => fxd f y || decide (y = x)) = E n R (fun y => fxd f y || decide (y = x)) := E_op
    have e2 : E n (fun x y => R y x) (fxd f) = E n R (fxd f) := E_op
    exact e1.symm.trans (this.trans e2)
theorem fix_walk {R : Nat → Nat → Bool} (o : Ord n R id) {g : Nat → Nat} (mf : Mono R f) (mg : Mono R g) {x : Nat} (same : ∀ y, y ≠ x → g y = f y) (h : R (f x) (g x) = true ∨ R (g x) (f x) = true) : E n R (fxd g) = E n R (fxd f) := by
  by_cases c : g x = x
  · rw [c] at h
    rw [← fix_any o mf h]
    congr 1
    funext y
    unfold fxd
    by_cases e : y = x
    · rw [e, decide_eq_true c, decide_eq_true rfl, Bool.or_true]
    · rw [same y e, decide_eq_false e, Bool.or_false]
  · by_cases d : f x = x
    · rw [d] at h
      rw [← fix_any o mg h.symm]
      congr 1
      funext y
      unfold fxd
      by_cases e : y = x
      · rw [e, decide_eq_true d, decide_eq_true rfl, Bool.or_true]
      · rw [same y e, decide_eq_false e, Bool.or_false]
    · congr 1
      funext y
      unfold fxd
      by_cases e : y = x
      · rw [e, decide_eq_false c, decide_eq_false d]
      · rw [same y e]
end
end Mi.ch
set_option maxHeartbeats 2000000
namespace Mi.ch
theorem N_congr {n : Nat} {R R2 : Nat → Nat → Bool} {F F2 : Nat → Bool} (h : ∀ x y, x < n → y < n → R x y = R2 x y) (hF : ∀ x, x < n → F x = F2 x) : ∀ k y, y < n → N n R F k y = N n R2 F2 k y
  | 0, y, hy => by
    unfold N
    rw [hF y hy]
  | k + 1, y, hy => by
    unfold N
    rw [hF y hy, su_congr fun x hx => by rw [h x y hx hy, N_congr h hF k x hx]]
theorem E_congr {n : Nat} {R R2 : Nat → Nat → Bool} {F F2 : Nat → Bool} (h : ∀ x y, x < n → y < n → R x y = R2 x y) (hF : ∀ x, x < n → F x = F2 x) : E n R F = E n R2 F2 := si_congr fun k _ => by
  rw [show T n R F k = T n R2 F2 k from su_congr fun y hy => N_congr h hF k y hy]
structure Lb (m n : Nat) (F : Nat → Bool) (lab : Nat → Nat) : Prop where
  inn : ∀ j, j < m → lab j < n ∧ F (lab j) = true
  inj : ∀ i j, i < m → j < m → lab i = lab j → i = j
  sur : ∀ x, x < n → F x = true → ∃ j, j < m ∧ lab j = x
theorem Lb.sum {m n : Nat} {F : Nat → Bool} {lab : Nat → Nat} (h : Lb m n F lab) (f : Nat → Nat) : su m (fun j => f (lab j)) = su n (fun x => if F x = true then f x else 0) := by
  rw [← su_list, ← su_filter, show ((List.range m).map fun j => f (lab j)) = ((List.range m).map lab).map f from (List.map_map ..).symm]
  refine psum (List.Perm.map f ((List.perm_ext_iff_of_nodup (nd_map List.nodup_range fun x hx y hy e => h.inj x y (List.mem_range.mp hx) (List.mem_range.mp hy) e) (List.Pairwise.filter _ List.nodup_range)).mpr fun x => ?_))
  rw [List.mem_map, List.mem_filter, List.mem_range]
  constructor
  · rintro ⟨j, hj, rfl⟩
    exact h.inn j (List.mem_range.mp hj)
  · rintro ⟨a, b⟩
    obtain ⟨j, hj, e⟩ := h.sur x a b
    exact ⟨j, List.mem_range.mpr hj, e⟩
theorem Lb.N_eq {m n : Nat} {R : Nat → Nat → Bool} {F : Nat → Bool} {lab : Nat → Nat} (h : Lb m n F lab) : ∀ k i, i < m → N m (fun i j => R (lab i) (lab j)) (fun _ => true) k i = N n R F k (lab i)
  | 0, i, hi => by
    unfold N
    rw [if_pos rfl, if_pos (h.inn i hi).2]
  | k + 1, i, hi => by
    unfold N
    rw [if_pos rfl, if_pos (h.inn i hi).2, su_congr fun x hx => by rw [Lb.N_eq h k x hx], h.sum fun z => if R z (lab i) = true then N n R F k z else 0]
    refine su_congr fun x _ => ?_
    by_cases f : F x = true
    · rw [if_pos f]
    · rw [if_neg f, N_F f]
      split <;> rfl
theorem Lb.T_eq {m n : Nat} {R : Nat → Nat → Bool} {F : Nat → Bool} {lab : Nat → Nat} (h : Lb m n F lab) {k : Nat} : T m (fun i j => R (lab i) (lab j)) (fun _ => true) k = T n R F k := by
  unfold T
  rw [su_congr fun i hi => h.N_eq (R := R) k i hi, h.sum (N n R F k)]
  refine su_congr fun x _ => ?_
  by_cases f : F x = true
  · rw [if_pos f]
  · rw [if_neg f, N_F f]
theorem T_rk {n : Nat} {R : Nat → Nat → Bool} {F : Nat → Bool} {κ : Nat → Nat} (h : Rk n R κ) {k : Nat} (hk : n ≤ k) : T n R F k = 0 := su_zero fun y hy => N_rk h k y hy (by have := h.2 y hy; omega)
theorem Lb.E_eq {m n : Nat} {R : Nat → Nat → Bool} {F : Nat → Bool} {lab : Nat → Nat} (h : Lb m n F lab) {κ κ2 : Nat → Nat} (r : Rk n R κ) (r2 : Rk m (fun i j => R (lab i) (lab j)) κ2) : E m (fun i j => R (lab i) (lab j)) (fun _ => true) = E n R F := by
  unfold E
  rw [si_congr (n := m) fun k _ => by rw [h.T_eq (R := R)]]
  refine si_same (fun k hk => ?_) fun k hk => ?_
  · rw [← h.T_eq (R := R), T_rk r2 hk]
    exact Int.mul_zero _
  · rw [T_rk r hk]
    exact Int.mul_zero _
end Mi.ch
set_option maxHeartbeats 2000000
namespace Mi.k59
open PySem L2 ch
def fr (row : List Nat) (y : Nat) : Nat := row[y]?.getD 0
theorem su_ord {n : Nat} {T : List (List Bool)} (h : SU n T) : Ord n (ent T) id := ⟨⟨fun x y _ _ e => h.up x y e, fun y hy => hy⟩, h.tr, fun x e => absurd (h.up x x e) (Nat.lt_irrefl _), fun x y e => ent_lt h.mt e⟩
def unfit (T : List (List Bool)) (row : List Nat) (x v y : Nat) : Bool := (ent T y x && (!decide (fr row y = v) && !ent T (fr row y) v)) || (ent T x y && (!decide (fr row y = v) && !ent T v (fr row y)))
theorem fits_is {n : Nat} (hn : n ≤ 400000) {T : List (List Bool)} (hT : Mat n T) {row : List Nat} (hr : Row n n row) {x v : Nat} (hx : x < n) (hv : v < n) : t_law_fits T row x v = some (((List.range n).find? (unfit T row x v)).isNone) := by
  unfold t_law_fits
  rw [hT.1, gd_ok hn]
  have e := forR_find (f := tb1_law_fits T row x v) (xs := List.range n) (unfit T row x v) (fun _ => false) fun y hy => by
    have hy := List.mem_range.mp hy
    obtain ⟨r1, e1, _, g1⟩ := hT.row hy
    obtain ⟨r2, e2, _, g2⟩ := hT.row hx
    obtain ⟨r3, e3, _, g3⟩ := hT.row hv
    obtain ⟨e4, b4⟩ := hr.get hy
    obtain ⟨r5, e5, _, g5⟩ := hT.row b4
    unfold unfit fr
    obtain ⟨w, hw⟩ : ∃ w, w = row[y]?.getD 0 := ⟨_, rfl⟩
    rw [← hw] at e4 b4 e5 g5 ⊢
    unfold tb1_law_fits
    rw [e1, Option.bind_some, g1 x hx, Option.bind_some, e4, Option.bind_some, e2]
    have p1 : ((some w).bind fun v9 => (T[v9]?).bind fun v10 => (v10[v]?).bind fun v11 => some (!v11)) = some (!ent T w v) := by rw [Option.bind_some, e5, Option.bind_some, g5 v hv]; rfl
    have p2 : ((T[v]?).bind fun v19 => (some w).bind fun v20 => (v19[v20]?).bind fun v21 => some (!v21)) = some (!ent T v w) := by rw [e3, Option.bind_some, Option.bind_some, g3 w b4]; rfl
    rw [p1]
    have q1 : (if ent T y x = true then ((if (!decide (w = v)) = true then some (!ent T w v) else some false).bind fun c12 => some c12) else some false) = some (ent T y x && (!decide (w = v) && !ent T w v)) := by
      cases ent T y x <;> cases decide (w = v) <;> rfl
    rw [q1, Option.bind_some]
    cases c1 : (ent T y x && (!decide (w = v) && !ent T w v))
    · rw [if_neg (by decide), Option.bind_some, g2 y hy, Option.bind_some]
      simp only [Option.bind_some] at p2 ⊢
      rw [p2]
      cases ent T x y <;> cases decide (w = v) <;> cases ent T v w <;> rfl
    · rfl
  rw [e]
  cases (List.range n).find? (unfit T row x v) <;> rfl
theorem set_mono {n : Nat} {T : List (List Bool)} (h : SU n T) {row : List Nat} (hr : Row n n row) (m : Mono (ent T) (fr row)) {x v : Nat} (hx : x < n) (e : ((List.range n).find? (unfit T row x v)).isNone = true) : Mono (ent T) (fr (row.set x v)) ∧ (∀ y, y ≠ x → fr (row.set x v) y = fr row y) ∧ fr (row.set x v) x = v := by
  have s1 : ∀ y, y ≠ x → fr (row.set x v) y = fr row y := fun y hy => by
    unfold fr
    rw [List.getElem?_set_ne fun e => hy e.symm]
  have s2 : fr (row.set x v) x = v := by
    unfold fr
    rw [List.getElem?_set_self (by rw [hr.1]; exact hx)]
    rfl
  refine ⟨fun y z q => ?_, s1, s2⟩
  rw [Option.isNone_iff_eq_none, List.find?_eq_none] at e
  obtain ⟨hy, hz⟩ := ent_lt h.mt q
  have ir := (su_ord h).ir
  by_cases c : y = x
  · subst c
    have nz : z ≠ y := fun e => ir y (by rw [e] at q; exact q)
    rw [s2, s1 z nz]
    have := e z (List.mem_range.mpr hz)
    unfold unfit at this
    rw [q, Bool.true_and] at this
    by_cases d : fr row z = v
    · exact .inl d.symm
    · right
      rw [decide_eq_false d] at this
      cases w : ent T v (fr row z)
      · rw [w] at this
        exact absurd (Bool.or_true _) this
      · rfl
  · rw [s1 y c]
    by_cases d : z = x
    · subst d
      rw [s2]
      have := e y (List.mem_range.mpr hy)
      unfold unfit at this
      rw [q, Bool.true_and] at this
      by_cases d : fr row y = v
      · exact .inl d
      · right
        rw [decide_eq_false d] at this
        cases w : ent T (fr row y) v
        · rw [w] at this
          exact absurd (Bool.true_or _) this
        · rfl
    · rw [s1 z d]
      exact m y z q
theorem map_mono (st : TP) {n : Nat} (hn : n ≤ 64) {T : List (List Bool)} (h : SU n T) : ∃ row st', t_law_map st T = some (row, st') ∧ Row n n row ∧ Mono (ent T) (fr row) := by
  have hT := h.mt
  unfold t_law_map
  rw [hT.1, gd_ok (by omega), lett_is]
  have c0 : ∃ c : Bool × TP, (if (decide (0 < n)) = true then ((t_law_draw st 3).bind fun r5 => some ((decide (r5.1 = 0)), r5.2)) else (some (false, st))) = some c ∧ (c.1 = true → 0 < n) := by
    by_cases c : 0 < n
    · obtain ⟨d, s1, e1, _⟩ := draw_lt st (m := 3) (by omega) (by omega)
      rw [if_pos (decide_eq_true c), e1]
      exact ⟨_, rfl, fun _ => c⟩
    · rw [if_neg (by rw [decide_eq_false c]; decide)]
      exact ⟨_, rfl, fun h => by cases h⟩
  obtain ⟨c, ec, hc⟩ := c0
  rw [ec, Option.bind_some]
  have j : ∃ j : List Nat × TP, (if c.1 = true then ((t_law_draw c.2 n).bind fun r16 =>
    gd ([r16.1].length * n ≤ 400000) <|
    gd (n ≤ 400000) <|
    lett ((List.replicate n [r16.1]).flatten : (List Nat)) fun c23 =>
    some (c23, r16.2)) else (some (List.range n, c.2)) : Option ((List Nat) × TP)) = some j ∧ Row n n j.1 ∧ Mono (ent T) (fr j.1) := by
    by_cases c1 : c.1 = true
    · have h0 := hc c1
      obtain ⟨d, s1, e1, hd⟩ := draw_lt c.2 h0 (by omega)
      rw [if_pos c1, e1, Option.bind_some, gd_ok (by show 1 * n ≤ _; omega), gd_ok (by omega), lett_is]
      refine ⟨_, rfl, ⟨zs_len, fun v hv => ?_⟩, fun y z q => .inl ?_⟩
      · obtain ⟨l, h1, h2⟩ := List.mem_flatten.mp hv
        rw [List.eq_of_mem_replicate h1] at h2
        rw [List.mem_singleton.mp h2]
        exact hd
      · obtain ⟨hy, hz⟩ := ent_lt hT q
        show fr (List.replicate n [d]).flatten y = fr (List.replicate n [d]).flatten z
        unfold fr
        rw [rep_map, range_get hy, range_get hz]
    · rw [if_neg c1]
      refine ⟨_, rfl, ⟨List.length_range, fun v hv => List.mem_range.mp hv⟩, fun y z q => .inr ?_⟩
      obtain ⟨hy, hz⟩ := ent_lt hT q
      show ent T (fr (List.range n) y) (fr (List.range n) z) = true
      unfold fr
      rw [List.getElem?_range hy, List.getElem?_range hz]
      exact q
  obtain ⟨j, ej, hj, mj⟩ := j
  rw [ej, Option.bind_some]
  obtain ⟨k, s2, e2, hk⟩ := draw_lt j.2 (m := 4 * n + 1) (by omega) (by omega)
  rw [e2, Option.bind_some, gd_ok (by show k ≤ _; omega)]
  obtain ⟨q, e3, hq, mq⟩ := forO_mem (f := tb1_law_map T) (xs := List.range k) (a0 := (s2, j.1)) (fun q => Row n n q.2 ∧ Mono (ent T) (fr q.2)) ⟨hj, mj⟩ fun i hi q ⟨hq, mq⟩ => by
    have hi := List.mem_range.mp hi
    have h0 : 0 < n := by omega
    obtain ⟨x, s3, e3, hx⟩ := draw_lt q.1 h0 (by omega)
    obtain ⟨v, s4, e4, hv⟩ := draw_lt s3 h0 (by omega)
    unfold tb1_law_map
    rw [hT.1, e3, Option.bind_some, show t_law_draw (x, s3).2 n = _ from e4, Option.bind_some, show t_law_fits T q.2 (x, s3).1 (v, s4).1 = _ from fits_is (by omega) hT hq hx hv, Option.bind_some]
    by_cases c : ((List.range n).find? (unfit T q.2 x v)).isNone = true
    · rw [if_pos c, gd_ok (by rw [hq.1]; exact hx), lett_is]
      exact ⟨_, rfl, hq.set hv, (set_mono h hq mq hx c).1⟩
    · rw [if_neg c]
      exact ⟨_, rfl, hq, mq⟩
  rw [show forO (tb1_law_map T) (List.range (k, s2).1) ((k, s2).2, j.1) = _ from e3]
  exact ⟨_, _, rfl, hq, mq⟩
def Near (n : Nat) (T : List (List Bool)) (C : List (List Nat)) : Prop := ∀ x, x < n → ∃ l, C[x]? = some l ∧ l.length ≤ 128 ∧ ∀ v ∈ l, ent T x v = true ∨ ent T v x = true
theorem covers_ok {n : Nat} (hn : n ≤ 64) {T : List (List Bool)} (hT : Mat n T) : ∃ C, t_law_covers T = some C ∧ Near n T C := by
  unfold t_law_covers
  rw [hT.1, gd_ok (by omega)]
  obtain ⟨C, e, l, h⟩ := forO_rng (f := tb1_law_covers T) (n := n) (a0 := []) (fun i C => C.length = i ∧ ∀ x, x < i → ∃ l, C[x]? = some l ∧ l.length ≤ 128 ∧ ∀ v ∈ l, ent T x v = true ∨ ent T v x = true) ⟨rfl, fun x h => absurd h (Nat.not_lt_zero _)⟩ fun x C hx ⟨l, h⟩ => by
    obtain ⟨r, er, _, gr⟩ := hT.row hx
    unfold tb1_law_covers
    rw [hT.1, gd_ok (by omega), gd_ok (by rw [List.length_range]; omega), lcO_eq (c1 := fun y => ent T x y) (v1 := fun y => y) fun y hy => ⟨by rw [er, Option.bind_some, gr y (List.mem_range.mp hy)]; rfl, fun _ => rfl⟩, List.map_id', Option.bind_some, gd_ok (by omega), gd_ok (by rw [List.length_range]; omega), lcO_eq (c1 := fun y => ent T y x) (v1 := fun y => y) fun y hy => by
      obtain ⟨r2, e2, _, g2⟩ := hT.row (List.mem_range.mp hy)
      exact ⟨by rw [e2, Option.bind_some, g2 x hx]; rfl, fun _ => rfl⟩, List.map_id', Option.bind_some]
    obtain ⟨A, hA⟩ : ∃ A, A = (List.range n).filter fun y => ent T x y := ⟨_, rfl⟩
    obtain ⟨B, hB⟩ : ∃ B, B = (List.range n).filter fun y => ent T y x := ⟨_, rfl⟩
    have al : A.length ≤ n := by
      rw [hA]
      have := List.length_filter_le (fun y => ent T x y) (List.range n)
      rwa [List.length_range] at this
    have bl : B.length ≤ n := by
      rw [hB]
      have := List.length_filter_le (fun y => ent T y x) (List.range n)
      rwa [List.length_range] at this
    have am : ∀ y ∈ A, y < n ∧ ent T x y = true := fun y hy => by
      rw [hA] at hy
      obtain ⟨a, b⟩ := List.mem_filter.mp hy
      exact ⟨List.mem_range.mp a, b⟩
    have bm : ∀ y ∈ B, y < n ∧ ent T y x = true := fun y hy => by
      rw [hB] at hy
      obtain ⟨a, b⟩ := List.mem_filter.mp hy
      exact ⟨List.mem_range.mp a, b⟩
    rw [← hA, ← hB, gd_ok (by omega), lcO_eq (c1 := fun y => decide ((A.filter fun z => ent T z y).length = 0)) (v1 := fun y => y) fun y hy => ⟨by
      rw [gd_ok (by omega), lcO_eq (c1 := fun z => ent T z y) (v1 := fun z => z) fun z hz => by
        obtain ⟨r2, e2, _, g2⟩ := hT.row (am z hz).1
        exact ⟨by rw [e2, Option.bind_some, g2 y (am y hy).1]; rfl, fun _ => rfl⟩, List.map_id']
      rfl, fun _ => rfl⟩, List.map_id', Option.bind_some, gd_ok (by omega), lcO_eq (c1 := fun y => decide ((B.filter fun z => ent T y z).length = 0)) (v1 := fun y => y) fun y hy => ⟨by
      rw [gd_ok (by omega), lcO_eq (c1 := fun z => ent T y z) (v1 := fun z => z) fun z hz => by
        obtain ⟨r2, e2, _, g2⟩ := hT.row (bm y hy).1
        exact ⟨by rw [e2, Option.bind_some, g2 z (bm z hz).1]; rfl, fun _ => rfl⟩, List.map_id']
      rfl, fun _ => rfl⟩, List.map_id', Option.bind_some]
    obtain ⟨A2, hA2⟩ : ∃ A2, A2 = A.filter fun y => decide ((A.filter fun z => ent T z y).length = 0) := ⟨_, rfl⟩
    obtain ⟨B2, hB2⟩ : ∃ B2, B2 = B.filter fun y => decide ((B.filter fun z => ent T y z).length = 0) := ⟨_, rfl⟩
    have a2 : A2.length ≤ A.length := by rw [hA2]; exact List.length_filter_le _ _
    have b2 : B2.length ≤ B.length := by rw [hB2]; exact List.length_filter_le _ _
    rw [← hA2, ← hB2, gd_ok (by omega), gd_ok (by omega), lett_is]
    refine ⟨_, rfl, by rw [List.length_append, l]; rfl, fun z hz => ?_⟩
    rcases Nat.lt_succ_iff_lt_or_eq.mp hz with c | c
    · obtain ⟨w, e1, w2⟩ := h z c
      exact ⟨w, by rw [List.getElem?_append_left (by omega)]; exact e1, w2⟩
    · rw [c]
      refine ⟨A2 ++ B2, by rw [List.getElem?_append_right (by omega), l, Nat.sub_self]; rfl, by rw [List.length_append]; omega, fun v hv => ?_⟩
      rcases List.mem_append.mp hv with q | q
      · rw [hA2] at q
        exact .inl (am v (List.mem_filter.mp q).1).2
      · rw [hB2] at q
        exact .inr (bm v (List.mem_filter.mp q).1).2
  rw [e]
  exact ⟨_, rfl, h⟩
theorem walked_ok (st : TP) {n k : Nat} (hn : n ≤ 64) (h0 : 0 < n) (hk : k ≤ 400000) {T : List (List Bool)} (h : SU n T) {C : List (List Nat)} (hC : Near n T C) {row : List Nat} (hr : Row n n row) (m : Mono (ent T) (fr row)) : ∃ row2 st', t_law_walked st T C row k = some (row2, st') ∧ Row n n row2 ∧ Mono (ent T) (fr row2) ∧ E n (ent T) (fxd (fr row2)) = E n (ent T) (fxd (fr row)) := by
  unfold t_law_walked
  rw [gd_ok hk]
  obtain ⟨q, e, hq, mq, eq⟩ := forO_mem (f := tb1_law_walked T C) (xs := List.range k) (a0 := (st, row)) (fun q => Row n n q.2 ∧ Mono (ent T) (fr q.2) ∧ E n (ent T) (fxd (fr q.2)) = E n (ent T) (fxd (fr row))) ⟨hr, m, rfl⟩ fun i _ q ⟨hq, mq, eq⟩ => by
    obtain ⟨x, s3, e3, hx⟩ := draw_lt q.1 h0 (by omega)
    obtain ⟨e4, b4⟩ := hq.get hx
    obtain ⟨l, e5, l5, h5⟩ := hC _ b4
    unfold tb1_law_walked
    rw [h.mt.1, e3, Option.bind_some, show q.2[(x, s3).1]? = _ from e4, Option.bind_some, e5, Option.bind_some]
    by_cases c : 0 < l.length
    · obtain ⟨d, s4, e6, hd⟩ := draw_lt s3 c (by omega)
      have hv : l[d] < n := by
        rcases h5 _ (List.getElem_mem hd) with a | a
        · exact (ent_lt h.mt a).2
        · exact (ent_lt h.mt a).1
      rw [if_pos (decide_eq_true c), show t_law_draw (x, s3).2 l.length = _ from e6, Option.bind_some, show l[(d, s4).1]? = some l[d] from List.getElem?_eq_getElem hd, Option.bind_some, show t_law_fits T q.2 (x, s3).1 l[d] = _ from fits_is (by omega) h.mt hq hx hv, Option.bind_some]
      by_cases c2 : ((List.range n).find? (unfit T q.2 x l[d])).isNone = true
      · obtain ⟨m1, s1, s2⟩ := set_mono h hq mq hx c2
        rw [if_pos c2, gd_ok (by rw [hq.1]; exact hx), lett_is]
        refine ⟨_, rfl, hq.set hv, m1, ?_⟩
        rw [← eq]
        refine fix_walk (su_ord h) mq m1 s1 ?_
        rw [s2]
        exact h5 _ (List.getElem_mem hd)
      · rw [if_neg c2]
        exact ⟨_, rfl, hq, mq, eq⟩
    · rw [if_neg (by rw [decide_eq_false c]; decide)]
      exact ⟨_, rfl, hq, mq, eq⟩
  rw [e]
  exact ⟨_, _, rfl, hq, mq, eq⟩
end Mi.k59
set_option maxHeartbeats 2000000
namespace Mi.k59
open PySem L2 ch
theorem si_list {n : Nat} {f : Nat → Int} : ((List.range n).map f).sum = si n f := by
  induction n with
  | zero => rfl
  | succ n ih => rw [List.range_succ, List.map_append, List.sum_append, ih]; simp [si]
theorem si_filter {n : Nat} {P : Nat → Bool} {f : Nat → Int} : (((List.range n).filter P).map f).sum = si n (fun x => if P x = true then f x else 0) := by
  induction n with
  | zero => rfl
  | succ n ih =>
    rw [List.range_succ, List.filter_append, List.map_append, List.sum_append, ih]
    show _ = si n (fun x => if P x = true then f x else 0) + (if P n = true then f n else 0)
    congr 1
    by_cases c : P n = true
    · rw [List.filter_cons_of_pos c, if_pos c]
      simp
    · rw [List.filter_cons_of_neg c, if_neg c]
      rfl
theorem zi_len {n : Nat} : (List.replicate n [(0 : Int)]).flatten.length = n := by
  rw [List.length_flatten, List.map_replicate, List.sum_replicate_nat]
  exact Nat.mul_one n
theorem signs_ok {n : Nat} (hn : n ≤ 400000) {T : List (List Bool)} (h : SU n T) : ∃ q, t_law_signs T = some q ∧ q.sum = E n (ent T) fun _ => true := by
  unfold t_law_signs
  rw [h.mt.1, gd_ok (by omega), gd_ok (by rw [List.length_range]; omega), lcO_map (v1 := fun x => ((prd n T x).length, x)) fun x hx => by
    have hx := List.mem_range.mp hx
    rw [gd_ok (by omega), gd_ok (by rw [List.length_range]; omega), lcO_eq (c1 := fun y => ent T y x) (v1 := fun y => y) fun y hy => by
      obtain ⟨r, er, _, gr⟩ := h.mt.row (List.mem_range.mp hy)
      exact ⟨by rw [er, Option.bind_some, gr x hx]; rfl, fun _ => rfl⟩, List.map_id']
    rfl, Option.bind_some, lett_is, gd_ok (by show 1 * n ≤ _; omega), gd_ok hn, lett_is]
  obtain ⟨K, hK⟩ : ∃ K, K = srtPP ((List.range n).map fun x => ((prd n T x).length, x)) := ⟨_, rfl⟩
  have so : K.Pairwise fun p q => p.1 < q.1 ∨ (p.1 = q.1 ∧ p.2 ≤ q.2) := by rw [hK]; exact srtPP_ord
  have pm : K.Perm ((List.range n).map fun x => ((prd n T x).length, x)) := by rw [hK]; exact srtPP_perm
  have km : ∀ p, p ∈ K ↔ p.2 < n ∧ p.1 = (prd n T p.2).length := fun p => by
    rw [pm.mem_iff, List.mem_map]
    constructor
    · rintro ⟨x, hx, rfl⟩
      exact ⟨List.mem_range.mp hx, rfl⟩
    · rintro ⟨a, b⟩
      exact ⟨p.2, List.mem_range.mpr a, by rw [← b]⟩
  rw [← hK]
  obtain ⟨q, e, l, hq⟩ := forO_inv (f := tb1_law_signs T) (xs := K) (a0 := (List.replicate n [(0 : Int)]).flatten) (fun i q => q.length = n ∧ ∀ p ∈ K.take i, q[p.2]? = some (sy n (ent T) (fun _ => true) p.2)) ⟨zi_len, fun p hp => (nomatch hp)⟩ fun i p q hp ⟨l, hq⟩ => by
    have hi := (List.getElem?_eq_some_iff.mp hp).1
    obtain ⟨pn, pr⟩ := (km p).mp (List.mem_of_getElem? hp)
    have tk : K.take (i + 1) = K.take i ++ [p] := by
      rw [List.take_succ, hp]
      rfl
    have pre : ∀ z, ent T z p.2 = true → q[z]? = some (sy n (ent T) (fun _ => true) z) := fun z ez => by
      have lt := prd_lt h ez
      have hz := (ent_lt h.mt ez).1
      obtain ⟨j, hj, ej⟩ := List.getElem_of_mem ((km ((prd n T z).length, z)).mpr ⟨hz, rfl⟩)
      have ej2 : K[j]? = some ((prd n T z).length, z) := by rw [List.getElem?_eq_getElem hj, ej]
      have ji : j < i := by
        rcases Nat.lt_or_ge j i with c | c
        · exact c
        · rcases Nat.eq_or_lt_of_le c with c | c
          · subst c
            rw [hp] at ej2
            have := Option.some.inj ej2
            rw [this] at lt
            exact absurd lt (Nat.lt_irrefl _)
          · have := List.pairwise_iff_getElem.mp so i j hi hj c
            rw [List.getElem?_eq_getElem hi] at hp
            rw [Option.some.inj hp, ej, pr] at this
            have this : (prd n T p.2).length < (prd n T z).length ∨ ((prd n T p.2).length = (prd n T z).length ∧ p.2 ≤ z) := this
            omega
      exact hq ((prd n T z).length, z) (List.mem_take_iff_getElem.mpr ⟨j, by omega, ej⟩)
    unfold tb1_law_signs
    rw [h.mt.1, gd_ok (by omega), gd_ok (by rw [List.length_range]; omega), lcO_eq (c1 := fun y => ent T y p.2) (v1 := fun y => sy n (ent T) (fun _ => true) y) fun y hy => by
      obtain ⟨r, er, _, gr⟩ := h.mt.row (List.mem_range.mp hy)
      exact ⟨by rw [er, Option.bind_some, gr p.2 pn]; rfl, fun c => by rw [pre y c]; rfl⟩, Option.bind_some, gd_ok (by omega), lett_is, si_filter]
    refine ⟨_, rfl, by rw [List.length_set]; exact l, fun w hw => ?_⟩
    have val : (1 : Int) - si n (fun x => if ent T x p.2 = true then sy n (ent T) (fun _ => true) x else 0) = sy n (ent T) (fun _ => true) p.2 := by
      rw [sy_rec (su_ord h).rk pn, if_pos rfl]
    rw [val]
    by_cases c : p.2 = w.2
    · rw [← c, List.getElem?_set_self (by omega)]
    · rw [List.getElem?_set_ne c]
      rw [tk] at hw
      rcases List.mem_append.mp hw with a | a
      · exact hq w a
      · exact absurd (by rw [List.mem_singleton.mp a]) c
  rw [e]
  refine ⟨q, rfl, ?_⟩
  rw [List.take_length] at hq
  have : q = (List.range n).map (sy n (ent T) fun _ => true) := by
    apply List.ext_getElem?
    intro j
    by_cases hj : j < n
    · rw [hq ((prd n T j).length, j) ((km _).mpr ⟨hj, rfl⟩), List.getElem?_map, List.getElem?_range hj]
      rfl
    · rw [List.getElem?_eq_none (by omega), List.getElem?_eq_none (by rw [List.length_map, List.length_range]; omega)]
  rw [this, si_list, E_sy]
theorem number_ok {n : Nat} (hn : n ≤ 64) {T : List (List Bool)} (h : SU n T) {row : List Nat} (hr : Row n n row) : t_law_number T row = some (E n (ent T) (fxd (fr row))) := by
  unfold t_law_number
  obtain ⟨A, hA⟩ : ∃ A, A = (List.range n).filter fun x => fxd (fr row) x := ⟨_, rfl⟩
  have am : ∀ x, x ∈ A ↔ x < n ∧ fxd (fr row) x = true := fun x => by rw [hA, List.mem_filter, List.mem_range]
  have al : A.length ≤ n := by
    rw [hA]
    have := List.length_filter_le (fun x => fxd (fr row) x) (List.range n)
    rwa [List.length_range] at this
  have as : A.Pairwise (· < ·) := by rw [hA]; exact List.Pairwise.filter _ List.pairwise_lt_range
  rw [h.mt.1, gd_ok (by omega), gd_ok (by rw [List.length_range]; omega), lcO_eq (c1 := fun x => fxd (fr row) x) (v1 := fun x => x) fun x hx => by
    rw [(hr.get (List.mem_range.mp hx)).1]
    exact ⟨rfl, fun _ => rfl⟩, List.map_id', ← hA, Option.bind_some, gd_ok (by omega), lcO_map (v1 := fun x => A.map fun y => ent T x y) fun x hx => by
    rw [gd_ok (by omega), lcO_map (v1 := fun y => ent T x y) fun y hy => by
      obtain ⟨r, er, _, gr⟩ := h.mt.row ((am x).mp hx).1
      rw [er, Option.bind_some, gr y ((am y).mp hy).1]
      rfl]
    rfl, Option.bind_some]
  have et : ∀ i j, ent (A.map fun x => A.map fun y => ent T x y) i j = true ↔ ∃ x y, A[i]? = some x ∧ A[j]? = some y ∧ ent T x y = true := fun i j => by
    unfold ent
    rw [List.getElem?_map]
    cases ex : A[i]? with
    | none =>
      constructor
      · intro e
        cases e
      · rintro ⟨x, y, e, _⟩
        cases e
    | some x =>
      show (A.map fun y => (T[x]?.getD [])[y]?.getD false)[j]?.getD false = true ↔ _
      rw [List.getElem?_map]
      cases ey : A[j]? with
      | none =>
        constructor
        · intro e
          cases e
        · rintro ⟨x, y, _, e, _⟩
          cases e
      | some y =>
        constructor
        · intro e
          exact ⟨x, y, rfl, rfl, e⟩
        · rintro ⟨x2, y2, e1, e2, e3⟩
          cases e1
          cases e2
          exact e3
  have up : ∀ i j x y, A[i]? = some x → A[j]? = some y → x < y → i < j := fun i j x y ex ey lt => by
    obtain ⟨h1, e1⟩ := List.getElem?_eq_some_iff.mp ex
    obtain ⟨h2, e2⟩ := List.getElem?_eq_some_iff.mp ey
    rcases Nat.lt_or_ge i j with c | c
    · exact c
    · rcases Nat.eq_or_lt_of_le c with c | c
      · subst c
        rw [ex] at ey
        cases ey
        exact absurd lt (Nat.lt_irrefl _)
      · have := List.pairwise_iff_getElem.mp as j i h2 h1 c
        rw [e1, e2] at this
        exact absurd (Nat.lt_trans this lt) (Nat.lt_irrefl _)
  have sub : SU A.length (A.map fun x => A.map fun y => ent T x y) := ⟨⟨by rw [List.length_map], fun r hr => by
    obtain ⟨x, _, rfl⟩ := List.mem_map.mp hr
    rw [List.length_map]⟩, fun i j e => by
    obtain ⟨x, y, ex, ey, e⟩ := (et i j).mp e
    exact up i j x y ex ey (h.up x y e), fun i j k a b => by
    obtain ⟨x, y, ex, ey, e1⟩ := (et i j).mp a
    obtain ⟨y2, z, ey2, ez, e2⟩ := (et j k).mp b
    rw [ey] at ey2
    cases ey2
    exact (et i k).mpr ⟨x, z, ex, ez, h.tr _ _ _ e1 e2⟩⟩
  obtain ⟨q, e, s⟩ := signs_ok (by omega) sub
  rw [e, Option.bind_some, s]
  have ag : ∀ i, i < A.length → A[i]? = some (A[i]?.getD 0) := fun i hi => by rw [List.getElem?_eq_getElem hi]; rfl
  have lb : Lb A.length n (fxd (fr row)) fun i => A[i]?.getD 0 := ⟨fun i hi => (am _).mp (List.mem_of_getElem? (ag i hi)), fun i j hi hj e => by
    have e : A[i]?.getD 0 = A[j]?.getD 0 := e
    rcases Nat.lt_trichotomy i j with c | c | c
    · have := List.pairwise_iff_getElem.mp as i j hi hj c
      rw [List.getElem?_eq_getElem hi, List.getElem?_eq_getElem hj] at e
      have e : A[i] = A[j] := e
      omega
    · exact c
    · have := List.pairwise_iff_getElem.mp as j i hj hi c
      rw [List.getElem?_eq_getElem hi, List.getElem?_eq_getElem hj] at e
      have e : A[i] = A[j] := e
      omega, fun x hx fx => by
    obtain ⟨i, hi, e⟩ := List.getElem_of_mem ((am x).mpr ⟨hx, fx⟩)
    exact ⟨i, hi, by show A[i]?.getD 0 = x; rw [List.getElem?_eq_getElem hi, e]; rfl⟩⟩
  have same : ∀ i j, i < A.length → j < A.length → ent (A.map fun x => A.map fun y => ent T x y) i j = ent T (A[i]?.getD 0) (A[j]?.getD 0) := fun i j hi hj => by
    rw [Bool.eq_iff_iff, et]
    constructor
    · rintro ⟨x, y, ex, ey, e⟩
      rw [ex, ey]
      exact e
    · intro e
      exact ⟨_, _, ag i hi, ag j hj, e⟩
  rw [E_congr (R2 := fun i j => ent T (A[i]?.getD 0) (A[j]?.getD 0)) same (F2 := fun _ => true) fun _ _ => rfl]
  rw [lb.E_eq (R := ent T) (su_ord h).rk (κ2 := id) ⟨fun i j hi hj e => up i j _ _ (ag i hi) (ag j hj) (h.up _ _ e), fun i hi => hi⟩]
theorem law_ok (xs : List Int) : t_law xs = some true := by
  unfold t_law
  obtain ⟨s0, e0⟩ := tape_ok xs
  obtain ⟨T0, s1, n0, e1, hT0, hn0⟩ := drawn_ok s0 (m := 8) (by omega)
  rw [e0, Option.bind_some, e1, Option.bind_some]
  have j : ∃ T n, (if (decide ((T0, s1).1.length = 0)) = true then (lett ([[false]] : (List (List Bool))) fun up11 => some up11) else (some (T0, s1).1) : Option (List (List Bool))) = some T ∧ SU n T ∧ 0 < n ∧ n ≤ 8 := by
    by_cases c : T0.length = 0
    · rw [if_pos (decide_eq_true c)]
      have em : ∀ x y, ent [[false]] x y = false := fun x y => by
        unfold ent
        match x with
        | 0 => match y with
          | 0 => rfl
          | y + 1 => rfl
        | x + 1 => rfl
      exact ⟨[[false]], 1, rfl, ⟨⟨rfl, fun r hr => by rw [List.mem_singleton.mp hr]; rfl⟩, fun x y e => (by rw [em] at e; cases e), fun x y z e => (by rw [em] at e; cases e)⟩, by omega, by omega⟩
    · rw [if_neg (by rw [show (decide ((T0, s1).1.length = 0)) = false from decide_eq_false c]; decide)]
      have := hT0.mt.1
      exact ⟨T0, n0, rfl, so_su hT0, by omega, by omega⟩
  obtain ⟨T, n, ej, h, h0, hn⟩ := j
  rw [ej, Option.bind_some]
  obtain ⟨C, eC, hC⟩ := covers_ok (by omega) h.mt
  obtain ⟨L, s2, e2, hL⟩ := shuffled_ok s1 (n := n) (by omega)
  obtain ⟨ps, e3, hl, lab⟩ := told_ok (by omega) h hL
  rw [eC, Option.bind_some, h.mt.1, show t_law_shuffled (T0, s1).2 n = _ from e2, Option.bind_some, show t_law_told T (L, s2).1 = _ from e3, Option.bind_some]
  -- one look at a map
  have look : ∀ row, Row n n row → ∃ t, t_law_named L row = some t ∧ (lcO (fun x35 : Nat => (row[x35]?).bind fun v36 => some (decide (v36 = x35))) (fun x35 : Nat => ((L[x35]?).bind fun v37 => some v37 : Option Nat)) (List.range n)) = some (((List.range n).filter (fxd (fr row))).map fun x => L[x]?.getD 0) ∧ t_lefschetz (n, ps) t = some (E n (ent T) (fxd (fr row))) ∧ t_fixed_points (n, ps) t = some (srtN (((List.range n).filter (fxd (fr row))).map fun x => L[x]?.getD 0)) ∧ (srtN (((List.range n).filter (fxd (fr row))).map fun x => L[x]?.getD 0)).length ≤ 400000 := fun row hr => by
    obtain ⟨t, e4, lt, ht⟩ := named_ok (by omega) hL hr
    have fx : ∀ j, j < n → (t[j]?.getD 0 = j ↔ fxd (fr row) (L.idxOf j) = true) := fun j hj => by
      obtain ⟨i1, i2⟩ := idx_at hL hj
      obtain ⟨r1, r2⟩ := hr.get i1
      obtain ⟨n1, n2, n3⟩ := nm_at hL r2
      rw [ht j hj]
      show L[row[L.idxOf j]?.getD 0]?.getD 0 = j ↔ decide (row[L.idxOf j]?.getD 0 = L.idxOf j) = true
      rw [decide_eq_true_iff]
      constructor
      · intro e
        rw [e] at n3
        exact n3.symm
      · intro e
        rw [e, i2]
        rfl
    have due : ((List.range n).filter fun x => decide (t[x]?.getD 0 = x)) = srtN (((List.range n).filter (fxd (fr row))).map fun x => L[x]?.getD 0) := by
      refine srt_same (List.Pairwise.filter _ List.pairwise_lt_range) (nd_map (List.Pairwise.filter _ List.nodup_range) fun x hx y hy e => ?_) fun j => ?_
      · rw [← (nm_at hL (List.mem_range.mp (List.mem_filter.mp hx).1)).2.2, ← (nm_at hL (List.mem_range.mp (List.mem_filter.mp hy).1)).2.2, e]
      · rw [List.mem_filter, List.mem_map, List.mem_range, decide_eq_true_iff]
        constructor
        · rintro ⟨a, b⟩
          obtain ⟨i1, i2⟩ := idx_at hL a
          exact ⟨L.idxOf j, List.mem_filter.mpr ⟨List.mem_range.mpr i1, (fx j a).mp b⟩, by rw [i2]; rfl⟩
        · rintro ⟨x, hx, rfl⟩
          obtain ⟨x1, x2⟩ := List.mem_filter.mp hx
          obtain ⟨_, n2, n3⟩ := nm_at hL (List.mem_range.mp x1)
          exact ⟨n2, (fx _ n2).mpr (by rw [n3]; exact x2)⟩
    have fl := List.length_filter_le (fun x => decide (t[x]?.getD 0 = x)) (List.range n)
    rw [List.length_range] at fl
    refine ⟨t, e4, lcO_eq (c1 := fxd (fr row)) (v1 := fun x => L[x]?.getD 0) fun x hx => ?_, lef_ok (by omega) h.up (lab _ fun _ _ => rfl) hl lt fx, ?_, ?_⟩
    · have hx := List.mem_range.mp hx
      rw [(hr.get hx).1]
      exact ⟨rfl, fun _ => by rw [(nm_at hL hx).1]; rfl⟩
    · rw [fixed_ok (by omega) lt, due]
    · rw [← due]
      omega
  have lp := forR_inv (f := tb2_law T C (L, s2) (n, ps)) (xs := List.range 2) (a0 := s2) (fun _ _ => True) (fun _ => False) trivial fun i x q _ _ => by
    obtain ⟨row, s3, e4, hr, mr⟩ := map_mono q (n := n) (by omega) h
    unfold tb2_law
    rw [e4, Option.bind_some, show t_law_number T (row, s3).1 = _ from number_ok (by omega) h hr, Option.bind_some]
    obtain ⟨D, hD⟩ : ∃ D, D = E n (ent T) (fxd (fr row)) := ⟨_, rfl⟩
    rw [← hD]
    have lp := forR_inv (f := tb1_law T C (L, s2) (n, ps) D) (xs := List.range 4) (a0 := (row, s3)) (fun _ q => Row n n q.1 ∧ Mono (ent T) (fr q.1) ∧ E n (ent T) (fxd (fr q.1)) = D) (fun _ => False) ⟨hr, mr, hD.symm⟩ fun i x q _ ⟨hq, mq, eq⟩ => by
      obtain ⟨t, a1, a2, a3, a4, a5⟩ := look q.1 hq
      obtain ⟨d, s5, e5, hd⟩ := draw_lt q.2 (m := 10) (by omega) (by omega)
      obtain ⟨row2, s6, e6, hr2, mr2, er2⟩ := walked_ok s5 (n := n) (k := 1 + d) (by omega) h0 (by omega) h hC hq mq
      unfold tb1_law
      rw [show t_law_named (L, s2).1 q.1 = _ from a1, Option.bind_some, h.mt.1, gd_ok (by omega), gd_ok (by rw [List.length_range]; omega), show (lcO (fun x35 : Nat => (q.1[x35]?).bind fun v36 => some (decide (v36 = x35))) (fun x35 : Nat => (((L, s2).1[x35]?).bind fun v37 => some v37 : Option Nat)) (List.range n)) = _ from a2, Option.bind_some, lett_is, a3, Option.bind_some, same_int eq, Option.bind_some, if_neg (by decide), a4, Option.bind_some, show same_t (PV.tup ((srtN (((List.range n).filter (fxd (fr q.1))).map fun x => L[x]?.getD 0)).map (fun (q : Nat) => (PV.int ((q : Nat) : Int))))) (PV.tup ((srtN (((List.range n).filter (fxd (fr q.1))).map fun x => L[x]?.getD 0)).map (fun (q : Nat) => (PV.int ((q : Nat) : Int))))) = _ from same_row rfl a5, Option.bind_some, Option.bind_some, if_neg (by decide), e5, Option.bind_some, show t_law_walked (d, s5).2 T C q.1 (1 + (d, s5).1) = _ from e6, Option.bind_some]
      exact .inl ⟨_, rfl, hr2, mr2, er2.trans eq⟩
    rcases lp with ⟨q2, e5, hq, mq, eq⟩ | ⟨r, _, hr⟩
    · obtain ⟨t, a1, a2, a3, a4, a5⟩ := look q2.1 hq
      rw [lpB_nx (show forR (tb1_law T C (L, s2) (n, ps) D) (List.range 4) ((row, s3).1, (row, s3).2) = _ from e5), show t_law_named (L, s2).1 q2.1 = _ from a1, Option.bind_some, h.mt.1, gd_ok (by omega), gd_ok (by rw [List.length_range]; omega), show (lcO (fun x35 : Nat => (q2.1[x35]?).bind fun v36 => some (decide (v36 = x35))) (fun x35 : Nat => (((L, s2).1[x35]?).bind fun v37 => some v37 : Option Nat)) (List.range n)) = _ from a2, Option.bind_some, lett_is, a3, Option.bind_some, same_int eq, Option.bind_some, if_neg (by decide), a4, Option.bind_some, show same_t (PV.tup ((srtN (((List.range n).filter (fxd (fr q2.1))).map fun x => L[x]?.getD 0)).map (fun (q : Nat) => (PV.int ((q : Nat) : Int))))) (PV.tup ((srtN (((List.range n).filter (fxd (fr q2.1))).map fun x => L[x]?.getD 0)).map (fun (q : Nat) => (PV.int ((q : Nat) : Int))))) = _ from same_row rfl a5, Option.bind_some, if_neg (by decide)]
      exact .inl ⟨_, rfl, trivial⟩
    · exact hr.elim
  rcases lp with ⟨q, e5, _⟩ | ⟨r, _, hr⟩
  · rw [lpB_nx (show forR (tb2_law T C (L, s2) (n, ps)) (List.range 2) (L, s2).2 = _ from e5)]
  · exact hr.elim
theorem main : ∀ ns : List Int, ns.length ≤ 63 → ∃ h, f_law [.frz (ns.map MV.int)] [] = ok (.bl true) h := fun ns _ => by
  obtain ⟨h, e, _⟩ := tt_law (h := []) (law_ok ns)
  exact ⟨h, e⟩
end Mi.k59
set_option simprocs true
set_option maxHeartbeats 8000000
namespace Mi.k59
open PySem L2
def topS (i : Nat) : Stmt := PySem.Challenge.pw_strikecore_k59_whole_lefschetz_of_led_ma.main.body.getD i (.Pass ⟨0, 0, 0, 0⟩)
abbrev s_fixed_points : Stmt := topS 6
theorem sc_fixed_points : FnScope ["order", "row", "x"] ["order", "row"] (defScope s_fixed_points) := ⟨rfl, rfl, rfl, by decide +kernel, rfl, by decide +kernel, by decide +kernel⟩
abbrev s_induced : Stmt := topS 1
theorem sc_induced : FnScope ["order", "points", "places", "place", "point", "pairs", "x", "y"] ["order", "points"] (defScope s_induced) := ⟨rfl, rfl, rfl, by decide +kernel, rfl, by decide +kernel, by decide +kernel⟩
abbrev s_chain_counts : Stmt := topS 3
theorem sc_chain_counts : FnScope ["order", "counts", "ending", "longer", "x", "y"] ["order"] (defScope s_chain_counts) := ⟨rfl, rfl, rfl, by decide +kernel, rfl, by decide +kernel, by decide +kernel⟩
abbrev s_euler : Stmt := topS 4
theorem sc_euler : FnScope ["order", "counts"] ["order"] (defScope s_euler) := ⟨rfl, rfl, rfl, by decide +kernel, rfl, by decide +kernel, by decide +kernel⟩
abbrev s_lefschetz : Stmt := topS 7
theorem sc_lefschetz : FnScope ["order", "row"] ["order", "row"] (defScope s_lefschetz) := ⟨rfl, rfl, rfl, by decide +kernel, rfl, by decide +kernel, by decide +kernel⟩
abbrev s_law_tape : Stmt := topS 9
theorem sc_law_tape : FnScope ["script", "salt", "number"] ["script"] (defScope s_law_tape) := ⟨rfl, rfl, rfl, by decide +kernel, rfl, by decide +kernel, by decide +kernel⟩
abbrev s_law_load : Stmt := topS 10
theorem sc_law_load : FnScope ["tape", "number"] ["tape"] (defScope s_law_load) := ⟨rfl, rfl, rfl, by decide +kernel, rfl, by decide +kernel, by decide +kernel⟩
abbrev s_law_draw : Stmt := topS 11
theorem sc_law_draw : FnScope ["tape", "many", "k", "digit"] ["tape", "many"] (defScope s_law_draw) := ⟨rfl, rfl, rfl, by decide +kernel, rfl, by decide +kernel, by decide +kernel⟩
abbrev s_law_same : Stmt := topS 12
theorem sc_law_same : FnScope ["actual", "due", "k"] ["actual", "due"] (defScope s_law_same) := ⟨rfl, rfl, rfl, by decide +kernel, rfl, by decide +kernel, by decide +kernel⟩
abbrev s_law_shuffled : Stmt := topS 13
theorem sc_law_shuffled : FnScope ["tape", "many", "left", "k"] ["tape", "many"] (defScope s_law_shuffled) := ⟨rfl, rfl, rfl, by decide +kernel, rfl, by decide +kernel, by decide +kernel⟩
abbrev s_law_closed : Stmt := topS 14
theorem sc_law_closed : FnScope ["many", "links", "up", "k", "x", "y", "row", "mid"] ["many", "links"] (defScope s_law_closed) := ⟨rfl, rfl, rfl, by decide +kernel, rfl, by decide +kernel, by decide +kernel⟩
abbrev s_law_drawn : Stmt := topS 15
theorem sc_law_drawn : FnScope ["tape", "most", "many", "way", "links", "half", "k", "rare", "levels", "x", "y"] ["tape", "most"] (defScope s_law_drawn) := ⟨rfl, rfl, rfl, by decide +kernel, rfl, by decide +kernel, by decide +kernel⟩
abbrev s_law_told : Stmt := topS 16
theorem sc_law_told : FnScope ["up", "names", "pairs", "x", "y"] ["up", "names"] (defScope s_law_told) := ⟨rfl, rfl, rfl, by decide +kernel, rfl, by decide +kernel, by decide +kernel⟩
abbrev s_law_fits : Stmt := topS 18
theorem sc_law_fits : FnScope ["up", "row", "x", "value", "y"] ["up", "row", "x", "value"] (defScope s_law_fits) := ⟨rfl, rfl, rfl, by decide +kernel, rfl, by decide +kernel, by decide +kernel⟩
abbrev s_law_map : Stmt := topS 19
theorem sc_law_map : FnScope ["tape", "up", "many", "row", "k", "x", "value"] ["tape", "up"] (defScope s_law_map) := ⟨rfl, rfl, rfl, by decide +kernel, rfl, by decide +kernel, by decide +kernel⟩
abbrev s_law_named : Stmt := topS 20
theorem sc_law_named : FnScope ["names", "row", "told", "x"] ["names", "row"] (defScope s_law_named) := ⟨rfl, rfl, rfl, by decide +kernel, rfl, by decide +kernel, by decide +kernel⟩
abbrev s_law_covers : Stmt := topS 21
theorem sc_law_covers : FnScope ["up", "many", "near", "x", "high", "y", "low", "next_ones", "z"] ["up"] (defScope s_law_covers) := ⟨rfl, rfl, rfl, by decide +kernel, rfl, by decide +kernel, by decide +kernel⟩
abbrev s_law_signs : Stmt := topS 17
theorem sc_law_signs : FnScope ["up", "many", "ranked", "y", "x", "signs", "rank"] ["up"] (defScope s_law_signs) := ⟨rfl, rfl, rfl, by decide +kernel, rfl, by decide +kernel, by decide +kernel⟩
abbrev s_law_number : Stmt := topS 22
theorem sc_law_number : FnScope ["up", "row", "left", "x", "y"] ["up", "row"] (defScope s_law_number) := ⟨rfl, rfl, rfl, by decide +kernel, rfl, by decide +kernel, by decide +kernel⟩
abbrev s_law_walked : Stmt := topS 23
theorem sc_law_walked : FnScope ["tape", "up", "near", "row", "many", "k", "x", "values", "value"] ["tape", "up", "near", "row", "many"] (defScope s_law_walked) := ⟨rfl, rfl, rfl, by decide +kernel, rfl, by decide +kernel, by decide +kernel⟩
abbrev s_law : Stmt := topS 24
theorem sc_law : FnScope ["script", "tape", "up", "near", "names", "made", "k", "row", "due", "part", "told", "points", "x"] ["script"] (defScope s_law) := ⟨rfl, rfl, rfl, by decide +kernel, rfl, by decide +kernel, by decide +kernel⟩
structure Txt (K : PySem.W.Frag) (mg : Str → Option Value) where
  a_fixed_points : Addr
  d_fixed_points : FuncData
  F_fixed_points : Fun K "fixed_points" "fixed_points" s_fixed_points a_fixed_points d_fixed_points
  g_fixed_points : mg "fixed_points" = some (.ref a_fixed_points)
  a_induced : Addr
  d_induced : FuncData
  F_induced : Fun K "induced" "induced" s_induced a_induced d_induced
  g_induced : mg "induced" = some (.ref a_induced)
  a_chain_counts : Addr
  d_chain_counts : FuncData
  F_chain_counts : Fun K "chain_counts" "chain_counts" s_chain_counts a_chain_counts d_chain_counts
  g_chain_counts : mg "chain_counts" = some (.ref a_chain_counts)
  a_euler : Addr
  d_euler : FuncData
  F_euler : Fun K "euler" "euler" s_euler a_euler d_euler
  g_euler : mg "euler" = some (.ref a_euler)
  a_lefschetz : Addr
  d_lefschetz : FuncData
  F_lefschetz : Fun K "lefschetz" "lefschetz" s_lefschetz a_lefschetz d_lefschetz
  g_lefschetz : mg "lefschetz" = some (.ref a_lefschetz)
  a_law_tape : Addr
  d_law_tape : FuncData
  F_law_tape : Fun K "_law_tape" "_law_tape" s_law_tape a_law_tape d_law_tape
  g_law_tape : mg "_law_tape" = some (.ref a_law_tape)
  a_law_load : Addr
  d_law_load : FuncData
  F_law_load : Fun K "_law_load" "_law_load" s_law_load a_law_load d_law_load
  g_law_load : mg "_law_load" = some (.ref a_law_load)
  a_law_draw : Addr
  d_law_draw : FuncData
  F_law_draw : Fun K "_law_draw" "_law_draw" s_law_draw a_law_draw d_law_draw
  g_law_draw : mg "_law_draw" = some (.ref a_law_draw)
  a_law_same : Addr
  d_law_same : FuncData
  F_law_same : Fun K "_law_same" "_law_same" s_law_same a_law_same d_law_same
  g_law_same : mg "_law_same" = some (.ref a_law_same)
  a_law_shuffled : Addr
  d_law_shuffled : FuncData
  F_law_shuffled : Fun K "_law_shuffled" "_law_shuffled" s_law_shuffled a_law_shuffled d_law_shuffled
  g_law_shuffled : mg "_law_shuffled" = some (.ref a_law_shuffled)
  a_law_closed : Addr
  d_law_closed : FuncData
  F_law_closed : Fun K "_law_closed" "_law_closed" s_law_closed a_law_closed d_law_closed
  g_law_closed : mg "_law_closed" = some (.ref a_law_closed)
  a_law_drawn : Addr
  d_law_drawn : FuncData
  F_law_drawn : Fun K "_law_drawn" "_law_drawn" s_law_drawn a_law_drawn d_law_drawn
  g_law_drawn : mg "_law_drawn" = some (.ref a_law_drawn)
  a_law_told : Addr
  d_law_told : FuncData
  F_law_told : Fun K "_law_told" "_law_told" s_law_told a_law_told d_law_told
  g_law_told : mg "_law_told" = some (.ref a_law_told)
  a_law_fits : Addr
  d_law_fits : FuncData
  F_law_fits : Fun K "_law_fits" "_law_fits" s_law_fits a_law_fits d_law_fits
  g_law_fits : mg "_law_fits" = some (.ref a_law_fits)
  a_law_map : Addr
  d_law_map : FuncData
  F_law_map : Fun K "_law_map" "_law_map" s_law_map a_law_map d_law_map
  g_law_map : mg "_law_map" = some (.ref a_law_map)
  a_law_named : Addr
  d_law_named : FuncData
  F_law_named : Fun K "_law_named" "_law_named" s_law_named a_law_named d_law_named
  g_law_named : mg "_law_named" = some (.ref a_law_named)
  a_law_covers : Addr
  d_law_covers : FuncData
  F_law_covers : Fun K "_law_covers" "_law_covers" s_law_covers a_law_covers d_law_covers
  g_law_covers : mg "_law_covers" = some (.ref a_law_covers)
  a_law_signs : Addr
  d_law_signs : FuncData
  F_law_signs : Fun K "_law_signs" "_law_signs" s_law_signs a_law_signs d_law_signs
  g_law_signs : mg "_law_signs" = some (.ref a_law_signs)
  a_law_number : Addr
  d_law_number : FuncData
  F_law_number : Fun K "_law_number" "_law_number" s_law_number a_law_number d_law_number
  g_law_number : mg "_law_number" = some (.ref a_law_number)
  a_law_walked : Addr
  d_law_walked : FuncData
  F_law_walked : Fun K "_law_walked" "_law_walked" s_law_walked a_law_walked d_law_walked
  g_law_walked : mg "_law_walked" = some (.ref a_law_walked)
  a_law : Addr
  d_law : FuncData
  F_law : Fun K "law" "law" s_law a_law d_law
  g_law : mg "law" = some (.ref a_law)
  b_abs : mg "abs" = none
  b_bool : mg "bool" = none
  b_enumerate : mg "enumerate" = none
  b_int : mg "int" = none
  b_isinstance : mg "isinstance" = none
  b_len : mg "len" = none
  b_list : mg "list" = none
  b_range : mg "range" = none
  b_sorted : mg "sorted" = none
  b_sum : mg "sum" = none
  b_tuple : mg "tuple" = none
section
variable {P : Program} {w : World} {K : PySem.W.Frag} {mg : Str → Option Value} {base : Heap}
theorem bi_fixed_points (T : Txt K mg) : Binds K T.d_fixed_points ["order", "row"] [] := T.F_fixed_points.binds fun _ _ _ _ _ _ us hl => match us, hl with | [_, _], _ => rfl
theorem kb_fixed_points_0 (T : Txt K mg) : KBn K T.d_fixed_points ["order", "row"] 0 ["row", "order"] (fun us ws => pick [1, 0] (us ++ ws ++ [])) (fun vs zs => pick [1, 0] (vs ++ zs ++ [])) := by
  obtain ⟨oc, od, kV, doc, pm, an, cdv, ct, osl, e, lk, hcd⟩ := T.F_fixed_points.ex
  refine ⟨fun s us ws X h1 h2 => ?_, fun r1 r2 => vals_pick ((r1.append r2).append .nil) _⟩
  rw [e]
  exact BindsTo.of_eq (match us, h1, ws, h2 with | [], _, [_, _], _ => rfl)
theorem bi_induced (T : Txt K mg) : Binds K T.d_induced ["order", "points"] [] := T.F_induced.binds fun _ _ _ _ _ _ us hl => match us, hl with | [_, _], _ => rfl
theorem bi_chain_counts (T : Txt K mg) : Binds K T.d_chain_counts ["order"] [] := T.F_chain_counts.binds fun _ _ _ _ _ _ us hl => match us, hl with | [_], _ => rfl
theorem bi_euler (T : Txt K mg) : Binds K T.d_euler ["order"] [] := T.F_euler.binds fun _ _ _ _ _ _ us hl => match us, hl with | [_], _ => rfl
theorem bi_lefschetz (T : Txt K mg) : Binds K T.d_lefschetz ["order", "row"] [] := T.F_lefschetz.binds fun _ _ _ _ _ _ us hl => match us, hl with | [_, _], _ => rfl
theorem kb_lefschetz_0 (T : Txt K mg) : KBn K T.d_lefschetz ["order", "row"] 0 ["row", "order"] (fun us ws => pick [1, 0] (us ++ ws ++ [])) (fun vs zs => pick [1, 0] (vs ++ zs ++ [])) := by
  obtain ⟨oc, od, kV, doc, pm, an, cdv, ct, osl, e, lk, hcd⟩ := T.F_lefschetz.ex
  refine ⟨fun s us ws X h1 h2 => ?_, fun r1 r2 => vals_pick ((r1.append r2).append .nil) _⟩
  rw [e]
  exact BindsTo.of_eq (match us, h1, ws, h2 with | [], _, [_, _], _ => rfl)
theorem bi_law_tape (T : Txt K mg) : Binds K T.d_law_tape ["script"] [] := T.F_law_tape.binds fun _ _ _ _ _ _ us hl => match us, hl with | [_], _ => rfl
theorem bi_law_load (T : Txt K mg) : Binds K T.d_law_load ["tape"] [] := T.F_law_load.binds fun _ _ _ _ _ _ us hl => match us, hl with | [_], _ => rfl
theorem bi_law_draw (T : Txt K mg) : Binds K T.d_law_draw ["tape", "many"] [] := T.F_law_draw.binds fun _ _ _ _ _ _ us hl => match us, hl with | [_, _], _ => rfl
theorem bi_law_same (T : Txt K mg) : Binds K T.d_law_same ["actual", "due"] [] := T.F_law_same.binds fun _ _ _ _ _ _ us hl => match us, hl with | [_, _], _ => rfl
theorem bi_law_shuffled (T : Txt K mg) : Binds K T.d_law_shuffled ["tape", "many"] [] := T.F_law_shuffled.binds fun _ _ _ _ _ _ us hl => match us, hl with | [_, _], _ => rfl
theorem bi_law_closed (T : Txt K mg) : Binds K T.d_law_closed ["many", "links"] [] := T.F_law_closed.binds fun _ _ _ _ _ _ us hl => match us, hl with | [_, _], _ => rfl
theorem bi_law_drawn (T : Txt K mg) : Binds K T.d_law_drawn ["tape", "most"] [] := T.F_law_drawn.binds fun _ _ _ _ _ _ us hl => match us, hl with | [_, _], _ => rfl
theorem bi_law_told (T : Txt K mg) : Binds K T.d_law_told ["up", "names"] [] := T.F_law_told.binds fun _ _ _ _ _ _ us hl => match us, hl with | [_, _], _ => rfl
theorem bi_law_fits (T : Txt K mg) : Binds K T.d_law_fits ["up", "row", "x", "value"] [] := T.F_law_fits.binds fun _ _ _ _ _ _ us hl => match us, hl with | [_, _, _, _], _ => rfl
theorem bi_law_map (T : Txt K mg) : Binds K T.d_law_map ["tape", "up"] [] := T.F_law_map.binds fun _ _ _ _ _ _ us hl => match us, hl with | [_, _], _ => rfl
theorem bi_law_named (T : Txt K mg) : Binds K T.d_law_named ["names", "row"] [] := T.F_law_named.binds fun _ _ _ _ _ _ us hl => match us, hl with | [_, _], _ => rfl
theorem bi_law_covers (T : Txt K mg) : Binds K T.d_law_covers ["up"] [] := T.F_law_covers.binds fun _ _ _ _ _ _ us hl => match us, hl with | [_], _ => rfl
theorem bi_law_signs (T : Txt K mg) : Binds K T.d_law_signs ["up"] [] := T.F_law_signs.binds fun _ _ _ _ _ _ us hl => match us, hl with | [_], _ => rfl
theorem bi_law_number (T : Txt K mg) : Binds K T.d_law_number ["up", "row"] [] := T.F_law_number.binds fun _ _ _ _ _ _ us hl => match us, hl with | [_, _], _ => rfl
theorem bi_law_walked (T : Txt K mg) : Binds K T.d_law_walked ["tape", "up", "near", "row", "many"] [] := T.F_law_walked.binds fun _ _ _ _ _ _ us hl => match us, hl with | [_, _, _, _, _], _ => rfl
theorem ok_fixed_points (T : Txt K mg) : FnOk P w K mg base CX0 1 T.a_fixed_points T.d_fixed_points ["order", "row"] (spM K mg 2 f_fixed_points) := fn_mir T.F_fixed_points sc_fixed_points fun cdv A outer s H E hr =>
    (ss_one (s_ret (em_bty call_tuple_of cm_tup (by rfl) T.b_tuple PyProof.Rows.boot_tuple (am_cons (em_fls (lm_lc (tc_one (by decide)) (pe_lc (own := [("x", 2)]) rfl sc_fixed_points.nd (im_rng1 (by rfl) T.b_range (am_cons (em_ix ix_seq opm_ix (em_var (pv 0)) em_int (fun _ _ => rfl)) am_nil)) (blkOk_by (by kernel_rfl)) (fun _ _ _ _ _ => (pg_name (i := 2) sc_fixed_points.nd rfl (by first | exact Or.inl rfl | exact Or.inr rfl))) (fun _ _ _ _ _ => (pts_M (bm_cmp (op_eqA hr.units) opm_eq (em_ix ix_seq opm_ix (em_var (pv 1)) (em_var (pv 2)) (fun _ _ => rfl)) (em_var (pv 2)) (nomark _)))) (fun _ _ _ _ _ => (em_var (pv 2)))))) am_nil))))
theorem ok_induced (T : Txt K mg) : FnOk P w K mg base CX0 1 T.a_induced T.d_induced ["order", "points"] (spM K mg 2 f_induced) := (fn_mir (k := 0) (m := m_induced) T.F_induced sc_induced fun cdv A outer s H E hr =>
    (ss_cons (s_set (i := 2) sc_induced.nd rfl (Or.inr rfl) (em_dc (tc_tup [3, 4] (by decide)) (pe_dc (own := [("place", 3), ("point", 4)]) rfl sc_induced.nd (im_enm (by rfl) T.b_enumerate (am_cons (em_var (pv 1)) am_nil)) (blkOk_by (by kernel_rfl)) (fun _ _ _ _ _ => (pg_tup rfl (pgs_cons (pg_name (i := 3) sc_induced.nd rfl (by first | exact Or.inl rfl | exact Or.inr rfl)) (pgs_cons (pg_name (i := 4) sc_induced.nd rfl (by first | exact Or.inl rfl | exact Or.inr rfl)) pgs_nil)))) (fun _ _ _ _ _ => pts_y) (fun _ _ _ _ _ => (em_var (pv 4))) (fun _ _ _ _ _ => (em_var (pv 3))))))
    (ss_cons (s_lcF (tc_tup [6, 7] (by decide)) (ps_setLc (i := 5) (own := [("x", 6), ("y", 7)]) rfl sc_induced.nd rfl rfl (sw_true rfl rfl rfl (by decide +kernel)) (im_seq (em_ix ix_seq opm_ix (em_var (pv 0)) em_int (fun _ _ => rfl))) (blkOk_by (by kernel_rfl)) (fun _ _ _ _ _ => (pg_tup rfl (pgs_cons (pg_name (i := 6) sc_induced.nd rfl (by first | exact Or.inl rfl | exact Or.inr rfl)) (pgs_cons (pg_name (i := 7) sc_induced.nd rfl (by first | exact Or.inl rfl | exact Or.inr rfl)) pgs_nil)))) (fun _ _ _ _ _ => (pts_M (bm_w (wm_and (bm_cmp (op_din hr.units) opm_din (em_var (pv 6)) (em_var (pv 2)) (by with_unfolding_all rfl)) (wm_and1 (bm_cmp (op_din hr.units) opm_din (em_var (pv 7)) (em_var (pv 2)) (by with_unfolding_all rfl))))))) (fun _ _ _ _ _ => (em_tup (am_cons (em_dget hr.units (em_var (pv 2)) (em_var (pv 6)) (fun _ _ => rfl)) (am_cons (em_dget hr.units (em_var (pv 2)) (em_var (pv 7)) (fun _ _ => rfl)) am_nil))))))
    (ss_one (s_ret (em_tup (am_cons (em_blt call_len cm_len (by rfl) T.b_len PySem.boot_len (am_cons (em_var (pv 1)) am_nil)) (am_cons (em_bty call_tuple_of cm_tup (by rfl) T.b_tuple PyProof.Rows.boot_tuple (am_cons (em_var (pv 5)) am_nil)) am_nil)))))))).imp cut_sp
theorem ok_chain_counts (T : Txt K mg) : FnOk P w K mg base CX0 1 T.a_chain_counts T.d_chain_counts ["order"] (spM K mg 1 f_chain_counts) := (fn_mir (k := 0) (m := m_chain_counts) T.F_chain_counts sc_chain_counts fun cdv A outer s H E hr =>
    (ss_cons (s_set (i := 1) sc_chain_counts.nd rfl (Or.inl rfl) (em_ref (lm_lst am_nil)))
    (ss_cons (s_set (i := 2) sc_chain_counts.nd rfl (Or.inl rfl) (em_fls (lm_rep (em_fls (lm_lst (am_cons em_int am_nil))) (em_ix ix_seq opm_ix (em_var (pv 0)) em_int (fun _ _ => rfl)))))
    (ss_cons (s_pre (vs := [3, 4, 5]) (s_while 1000000 PassesOwn.never (bm_cmp op_gt opm_gt (em_blt (cr_sum rfl) cm_sum (by rfl) T.b_sum PyProof.Rows.boot_sum (am_cons (em_var (pv 2)) am_nil)) em_int (nomark _)) (ss_cut (ss_wip (vs := [3, 4, 5]) (ss_cons (s_expr (em_mth mm_app (pe_bm PySem.F.plainAttrs_list PySem.F.slot_list_append PySem.F.type_list_append mt_append (em_var (pv 1)) (am_cons (em_blt (cr_sum rfl) cm_sum (by rfl) T.b_sum PyProof.Rows.boot_sum (am_cons (em_var (pv 2)) am_nil)) am_nil))))
    (ss_cons (s_set (i := 3) sc_chain_counts.nd rfl (Or.inl rfl) (em_ref (lm_rep (em_fls (lm_lst (am_cons em_int am_nil))) (em_ix ix_seq opm_ix (em_var (pv 0)) em_int (fun _ _ => rfl)))))
    (ss_cons (s_pre (vs := [4, 5]) (s_for PassesOwn.never rfl (im_seq (em_ix ix_seq opm_ix (em_var (pv 0)) em_int (fun _ _ => rfl))) (pg_tup rfl (pgs_cons (pg_name (i := 4) sc_chain_counts.nd rfl (by first | exact Or.inl rfl | exact Or.inr rfl)) (pgs_cons (pg_name (i := 5) sc_chain_counts.nd rfl (by first | exact Or.inl rfl | exact Or.inr rfl)) pgs_nil))) (tg_tup [4, 5]) (ss_wip (vs := [4, 5]) (ss_one (s_sub (em_op op_addA opm_add (em_ix ix_seq opm_ix (em_var (pv 3)) (em_var (pv 5)) (fun _ _ => rfl)) (em_ix ix_seq opm_ix (em_var (pv 2)) (em_var (pv 4)) (fun _ _ => rfl))) (em_var (pv 3)) (em_var (pv 5)))))))
    (ss_one (s_set (i := 2) sc_chain_counts.nd rfl (Or.inl rfl) (em_frz (em_var (pv 3))))))))))))
    (ss_one (s_ret (em_bty call_tuple_of cm_tup (by rfl) T.b_tuple PyProof.Rows.boot_tuple (am_cons (em_var (pv 1)) am_nil)))))))).imp cut_sp
theorem ok_euler (T : Txt K mg) : FnOk P w K mg base CX0 2 T.a_euler T.d_euler ["order"] (spM K mg 1 f_euler) := fn_mir T.F_euler sc_euler fun cdv A outer s H E hr =>
    (ss_cons (s_set (i := 1) sc_euler.nd rfl (Or.inl rfl) (em_call (ok_chain_counts T) n_chain_counts (hr.mono (by decide)) (by rfl) T.g_chain_counts T.F_chain_counts.kp (bi_chain_counts T) .nil (fun _ => .nil) (am_cons (em_var (pv 0)) am_nil)))
    (ss_one (s_ret (em_op op_sub opm_sub (em_blt (cr_sumA rfl) cm_sumA (by rfl) T.b_sum PyProof.Rows.boot_sum (am_cons (em_stp (k := 2) (by decide) (em_var (pv 1)) om_none) am_nil)) (em_blt (cr_sumA rfl) cm_sumA (by rfl) T.b_sum PyProof.Rows.boot_sum (am_cons (em_stp (k := 2) (by decide) (em_var (pv 1)) (om_some em_int)) am_nil))))))
theorem ok_lefschetz (T : Txt K mg) : FnOk P w K mg base CX0 3 T.a_lefschetz T.d_lefschetz ["order", "row"] (spM K mg 2 f_lefschetz) := fn_mir T.F_lefschetz sc_lefschetz fun cdv A outer s H E hr =>
    (ss_one (s_ret (em_call (ok_euler T) n_euler (hr.mono (by decide)) (by rfl) T.g_euler T.F_euler.kp (bi_euler T) .nil (fun _ => .nil) (am_cons (em_call (ok_induced T) n_induced (hr.mono (by decide)) (by rfl) T.g_induced T.F_induced.kp (bi_induced T) .nil (fun _ => .nil) (am_cons (em_var (pv 0)) (am_cons (em_call (ok_fixed_points T) n_fixed_points (hr.mono (by decide)) (by rfl) T.g_fixed_points T.F_fixed_points.kp (bi_fixed_points T) .nil (fun _ => .nil) (am_cons (em_var (pv 0)) (am_cons (em_var (pv 1)) am_nil))) am_nil))) am_nil))))
theorem ok_law_tape (T : Txt K mg) : FnOk P w K mg base CX0 1 T.a_law_tape T.d_law_tape ["script"] (spM K mg 1 f_law_tape) := (fn_mir (k := 0) (m := m_law_tape) T.F_law_tape sc_law_tape fun cdv A outer s H E hr =>
    (ss_cons (s_set (i := 1) sc_law_tape.nd rfl (Or.inl rfl) (em_op op_addA opm_add em_int (em_blt call_len cm_len (by rfl) T.b_len PySem.boot_len (am_cons (em_var (pv 0)) am_nil))))
    (ss_cons (s_pre (vs := [2]) (s_for PassesOwn.never rfl (im_seq (em_var (pv 0))) (pg_name (i := 2) sc_law_tape.nd rfl (by first | exact Or.inl rfl | exact Or.inr rfl)) (tg_one 2) (ss_wip (vs := [2]) (ss_one (s_set (i := 1) sc_law_tape.nd rfl (Or.inl rfl) (em_op op_mod opm_mod (em_bty call_int1 cm_int (by rfl) T.b_int PyProof.Rows.boot_int (am_cons (em_op op_addA opm_add (em_op op_addA opm_add (em_op op_mul opm_mul (em_var (pv 1)) em_int) (em_blt call_abs cm_abs (by rfl) T.b_abs PyProof.Rows.boot_abs (am_cons (em_var (pv 2)) am_nil))) em_int) am_nil)) em_int))))))
    (ss_one (s_ret (em_disp (ps := [("cells", (flsM (bltL lstF (consA (varM 0) nilA)))), ("at", (cM (.int 0))), ("value", (cM (.int 0))), ("digits", (cM (.int 0))), ("mixed", (cM (.int 0))), ("salt", (varM 1))]) (pps_cons em_str (em_fls (lm_bty call_list_of cl_lst (by rfl) T.b_list PyProof.Rows.boot_list (am_cons (em_var (pv 0)) am_nil))) (pps_cons em_str em_int (pps_cons em_str em_int (pps_cons em_str em_int (pps_cons em_str em_int (pps_cons em_str (em_var (pv 1)) pps_nil)))))) rfl rfl (List.cons_ne_nil _ _) (by decide))))))).imp cut_sp
theorem ok_law_load (T : Txt K mg) : FnOk P w K mg base CX0 1 T.a_law_load T.d_law_load ["tape"] (spM K mg 1 f_law_load) := fn_mir T.F_law_load sc_law_load fun cdv A outer s H E hr =>
    (ss_cons (s_set (i := 1) sc_law_load.nd rfl (Or.inl rfl) (em_ix ix_seq opm_ix (em_dget hr.units (em_var (pv 0)) em_str (fun _ _ => rfl)) (em_dget hr.units (em_var (pv 0)) em_str (fun _ _ => rfl)) (fun _ _ => rfl)))
    (ss_cons (s_dput hr.units (em_var (pv 0)) em_str (em_op op_addA opm_add (em_dget hr.units (em_var (pv 0)) em_str (fun _ _ => rfl)) em_int))
    (ss_one (s_if (bm_cmp (op_eqA hr.units) opm_eq (em_op op_mod opm_mod (em_bty call_int1 cm_int (by rfl) T.b_int PyProof.Rows.boot_int (am_cons (em_var (pv 1)) am_nil)) em_int) em_int (nomark _)) (ss_cons (s_dput hr.units (em_var (pv 0)) em_str (em_op op_fdiv opm_div (em_blt call_abs cm_abs (by rfl) T.b_abs PyProof.Rows.boot_abs (am_cons (em_var (pv 1)) am_nil)) em_int))
    (ss_one (s_dput hr.units (em_var (pv 0)) em_str em_int))) (ss_cons (s_dput hr.units (em_var (pv 0)) em_str (em_op op_mod opm_mod (em_bty call_int1 cm_int (by rfl) T.b_int PyProof.Rows.boot_int (am_cons (em_op op_addA opm_add (em_op op_addA opm_add (em_op op_mul opm_mul (em_dget hr.units (em_var (pv 0)) em_str (fun _ _ => rfl)) em_int) (em_op op_fdiv opm_div (em_blt call_abs cm_abs (by rfl) T.b_abs PyProof.Rows.boot_abs (am_cons (em_var (pv 1)) am_nil)) em_int)) em_int) am_nil)) em_int))
    (ss_one (s_dput hr.units (em_var (pv 0)) em_str em_int)))))))
theorem ok_law_draw (T : Txt K mg) : FnOk P w K mg base CX0 2 T.a_law_draw T.d_law_draw ["tape", "many"] (spM K mg 2 f_law_draw) := fn_mir T.F_law_draw sc_law_draw fun cdv A outer s H E hr =>
    (ss_cons (s_if (bm_cmp op_lt opm_lt (em_var (pv 1)) em_int (nomark _)) (ss_one (s_ret em_int)) ss_nil)
    (ss_cons (s_pre (vs := [2, 3]) (s_for PassesOwn.never rfl (im_rng1 (by rfl) T.b_range (am_cons em_int am_nil)) (pg_name (i := 2) sc_law_draw.nd rfl (by first | exact Or.inl rfl | exact Or.inr rfl)) (tg_one 2) (ss_wip (vs := [2, 3]) (ss_cons (s_if (bm_w (wm_and (bm_cmp op_gt opm_gt (em_dget hr.units (em_var (pv 0)) em_str (fun _ _ => rfl)) em_int (nomark _)) (wm_and1 (bm_cmp op_gt opm_gt (em_dget hr.units (em_var (pv 0)) em_str (fun _ _ => rfl)) em_int (nomark _))))) (ss_cons (s_set (i := 3) sc_law_draw.nd rfl (Or.inl rfl) (em_op op_mod opm_mod (em_bty call_int1 cm_int (by rfl) T.b_int PyProof.Rows.boot_int (am_cons (em_dget hr.units (em_var (pv 0)) em_str (fun _ _ => rfl)) am_nil)) (em_var (pv 1))))
    (ss_cons (s_dput hr.units (em_var (pv 0)) em_str (em_op op_sub opm_sub (em_dget hr.units (em_var (pv 0)) em_str (fun _ _ => rfl)) em_int))
    (ss_cons (s_dput hr.units (em_var (pv 0)) em_str (em_op op_fdiv opm_div (em_dget hr.units (em_var (pv 0)) em_str (fun _ _ => rfl)) (em_var (pv 1))))
    (ss_one (s_ret (em_var (pv 3))))))) ss_nil)
    (ss_cons (s_if (bm_w (wm_or (bm_cmp op_gt opm_gt (em_dget hr.units (em_var (pv 0)) em_str (fun _ _ => rfl)) em_int (nomark _)) (wm_or1 (bm_cmp op_ge opm_ge (em_dget hr.units (em_var (pv 0)) em_str (fun _ _ => rfl)) (em_blt call_len cm_len (by rfl) T.b_len PySem.boot_len (am_cons (em_dget hr.units (em_var (pv 0)) em_str (fun _ _ => rfl)) am_nil)) (nomark _))))) (ss_one s_break) ss_nil)
    (ss_one (s_expr (em_call (ok_law_load T) n_law_load (hr.mono (by decide)) (by rfl) T.g_law_load T.F_law_load.kp (bi_law_load T) .nil (fun _ => .nil) (am_cons (em_var (pv 0)) am_nil)))))))))
    (ss_cons (s_if (bm_cmp op_gt opm_gt (em_dget hr.units (em_var (pv 0)) em_str (fun _ _ => rfl)) em_int (nomark _)) (ss_one (s_dput hr.units (em_var (pv 0)) em_str (em_op op_sub opm_sub (em_dget hr.units (em_var (pv 0)) em_str (fun _ _ => rfl)) em_int))) ss_nil)
    (ss_cons (s_dput hr.units (em_var (pv 0)) em_str (em_op op_mod opm_mod (em_bty call_int1 cm_int (by rfl) T.b_int PyProof.Rows.boot_int (am_cons (em_op op_addA opm_add (em_op op_mul opm_mul (em_dget hr.units (em_var (pv 0)) em_str (fun _ _ => rfl)) em_int) em_int) am_nil)) em_int))
    (ss_one (s_ret (em_op op_mod opm_mod (em_op op_mod opm_mod (em_bty call_int1 cm_int (by rfl) T.b_int PyProof.Rows.boot_int (am_cons (em_op op_addA opm_add (em_op op_mul opm_mul (em_op op_fdiv opm_div (em_dget hr.units (em_var (pv 0)) em_str (fun _ _ => rfl)) em_int) em_int) em_int) am_nil)) em_int) (em_var (pv 1)))))))))
theorem okr_law_same (T : Txt K mg) : ∀ j : Nat, FnOk P w K mg base CX0 (1 + j) T.a_law_same T.d_law_same ["actual", "due"] (spM K mg 2 (fr_law_same j))
  | 0 => by
    refine ⟨fun vs H Q E h => ?_, fun A outer s H args us vs Q E hr e0 hb r h => ?_⟩
    · obtain ⟨W, h, xs, _, _, _, _, p⟩ := h
      exact p.elim
    · obtain ⟨W, h, xs, _, _, _, _, p⟩ := h
      exact p.elim
  | j + 1 => by
    have ih := okr_law_same T j
    have hn := nr_law_same j
    refine fn_mir (k := 1 + j) T.F_law_same sc_law_same fun cdv A outer s H E hr => ?_
    exact (ss_cons (s_if (bm_truth (em_isi .tuple (by decide) (by rfl) T.b_isinstance (pe_bltn (by rfl) T.b_tuple PyProof.Rows.boot_tuple rfl) (em_var (pv 1))) fun _ => rfl) (ss_cons (s_if (bm_w (wm_or (bm_not (bm_truth (em_isi .tuple (by decide) (by rfl) T.b_isinstance (pe_bltn (by rfl) T.b_tuple PyProof.Rows.boot_tuple rfl) (em_var (pv 0))) fun _ => rfl)) (wm_or1 (bm_cmp (op_neA hr.units) opm_ne (em_blt call_len cm_len (by rfl) T.b_len PySem.boot_len (am_cons (em_var (pv 0)) am_nil)) (em_blt call_len cm_len (by rfl) T.b_len PySem.boot_len (am_cons (em_var (pv 1)) am_nil)) (nomark _))))) (ss_one (s_ret em_bl)) ss_nil)
    (ss_cons (s_pre (vs := [2]) (s_for PassesOwn.never rfl (im_rng1 (by rfl) T.b_range (am_cons (em_blt call_len cm_len (by rfl) T.b_len PySem.boot_len (am_cons (em_var (pv 1)) am_nil)) am_nil)) (pg_name (i := 2) sc_law_same.nd rfl (by first | exact Or.inl rfl | exact Or.inr rfl)) (tg_one 2) (ss_wip (vs := [2]) (ss_one (s_if (bm_not (bm_truth (em_call (ih) (hn) (hr.mono (by omega)) (by rfl) T.g_law_same T.F_law_same.kp (bi_law_same T) .nil (fun _ => .nil) (am_cons (em_ix ix_seq opm_ix (em_var (pv 0)) (em_var (pv 2)) (fun _ _ => rfl)) (am_cons (em_ix ix_seq opm_ix (em_var (pv 1)) (em_var (pv 2)) (fun _ _ => rfl)) am_nil))) fun _ => rfl)) (ss_one (s_ret em_bl)) ss_nil)))))
    (ss_one (s_ret em_bl)))) ss_nil)
    (ss_one (s_ret (em_and (em_isi .int (by decide) (by rfl) T.b_isinstance (pe_bltn (by rfl) T.b_int PyProof.Rows.boot_int rfl) (em_var (pv 0))) (em_and (em_not (em_isi .bool (by decide) (by rfl) T.b_isinstance (pe_bltn (by rfl) T.b_bool (by decide +kernel) rfl) (em_var (pv 0)))) (em_one (em_cmp (op_eqA hr.units) opm_eq (em_var (pv 0)) (em_var (pv 1)) (nomark _))))))))
theorem ok_law_same (T : Txt K mg) : FnOk P w K mg base CX0 9 T.a_law_same T.d_law_same ["actual", "due"] (spM K mg 2 f_law_same) := okr_law_same T 8
theorem ok_law_shuffled (T : Txt K mg) : FnOk P w K mg base CX0 3 T.a_law_shuffled T.d_law_shuffled ["tape", "many"] (spM K mg 2 f_law_shuffled) := (fn_mir (k := 2) (m := m_law_shuffled) T.F_law_shuffled sc_law_shuffled fun cdv A outer s H E hr =>
    (ss_cons (s_set (i := 2) sc_law_shuffled.nd rfl (Or.inr rfl) (em_ref (lm_rg rfl (by rfl) T.b_list (by rfl) T.b_range (em_var (pv 1)))))
    (ss_one (s_ret (em_fls (lm_lc (tc_one (by decide)) (pe_lc (own := [("k", 3)]) rfl sc_law_shuffled.nd (im_rng1 (by rfl) T.b_range (am_cons (em_blt call_len cm_len (by rfl) T.b_len PySem.boot_len (am_cons (em_var (pv 2)) am_nil)) am_nil)) (blkOk_by (by kernel_rfl)) (fun _ _ _ _ _ => (pg_name (i := 3) sc_law_shuffled.nd rfl (by first | exact Or.inl rfl | exact Or.inr rfl))) (fun _ _ _ _ _ => pts_y) (fun _ _ _ _ _ => (em_mth mm_popAt (pe_bm PySem.F.plainAttrs_list PySem.F.slot_list_pop PySem.F.type_list_pop mt_popAt (em_var (pv 2)) (am_cons (em_call (ok_law_draw T) n_law_draw (hr.mono (by decide)) (by rfl) T.g_law_draw T.F_law_draw.kp (bi_law_draw T) .nil (fun _ => .nil) (am_cons (em_var (pv 0)) (am_cons (em_blt call_len cm_len (by rfl) T.b_len PySem.boot_len (am_cons (em_var (pv 2)) am_nil)) am_nil))) am_nil))))))))))).imp cut_sp
theorem ok_law_closed (T : Txt K mg) : FnOk P w K mg base CX0 1 T.a_law_closed T.d_law_closed ["many", "links"] (spM K mg 2 f_law_closed) := (fn_mir (k := 0) (m := m_law_closed) T.F_law_closed sc_law_closed fun cdv A outer s H E hr =>
    (ss_cons (s_set (i := 2) sc_law_closed.nd rfl (Or.inr rfl) (em_ref (lm_lc (tc_one (by decide)) (pe_lc (own := [("k", 3)]) rfl sc_law_closed.nd (im_rng1 (by rfl) T.b_range (am_cons (em_var (pv 0)) am_nil)) (blkOk_by (by kernel_rfl)) (fun _ _ _ _ _ => (pg_name (i := 3) sc_law_closed.nd rfl (by first | exact Or.inl rfl | exact Or.inr rfl))) (fun _ _ _ _ _ => pts_y) (fun _ _ _ _ _ => (em_ref (lm_rep (em_fls (lm_lst (am_cons em_bl am_nil))) (em_var (pv 0)))))))))
    (ss_cons (s_pre (vs := [4, 5, 6]) (s_for PassesOwn.never rfl (im_seq (em_var (pv 1))) (pg_tup rfl (pgs_cons (pg_name (i := 4) sc_law_closed.nd rfl (by first | exact Or.inl rfl | exact Or.inr rfl)) (pgs_cons (pg_name (i := 5) sc_law_closed.nd rfl (by first | exact Or.inl rfl | exact Or.inr rfl)) pgs_nil))) (tg_tup [4, 5]) (ss_wip (vs := [4, 5, 6]) (ss_cons (s_set (i := 6) sc_law_closed.nd rfl (Or.inl rfl) (em_ix ix_seq opm_ix (em_var (pv 2)) (em_var (pv 4)) (fun _ _ => rfl)))
    (ss_one (s_sub em_bl (em_var (pv 6)) (em_var (pv 5))))))))
    (ss_cons (s_pre (vs := [4, 7]) (s_for PassesOwn.never rfl (im_rng1 (by rfl) T.b_range (am_cons (em_var (pv 0)) am_nil)) (pg_name (i := 7) sc_law_closed.nd rfl (by first | exact Or.inl rfl | exact Or.inr rfl)) (tg_one 7) (ss_wip (vs := [4, 7]) (ss_one (s_pre (vs := [4]) (s_for PassesOwn.never rfl (im_rng1 (by rfl) T.b_range (am_cons (em_var (pv 0)) am_nil)) (pg_name (i := 4) sc_law_closed.nd rfl (by first | exact Or.inl rfl | exact Or.inr rfl)) (tg_one 4) (ss_wip (vs := [4]) (ss_one (s_if (bm_truth (em_ix ix_seq opm_ix (em_ix ix_seq opm_ix (em_var (pv 2)) (em_var (pv 4)) (fun _ _ => rfl)) (em_var (pv 7)) (fun _ _ => rfl)) fun _ => rfl) (ss_one (s_sub (em_ref (lm_lc (tc_one (by decide)) (pe_lc (own := [("y", 5)]) rfl sc_law_closed.nd (im_rng1 (by rfl) T.b_range (am_cons (em_var (pv 0)) am_nil)) (blkOk_by (by kernel_rfl)) (fun _ _ _ _ _ => (pg_name (i := 5) sc_law_closed.nd rfl (by first | exact Or.inl rfl | exact Or.inr rfl))) (fun _ _ _ _ _ => pts_y) (fun _ _ _ _ _ => (em_or (em_ix ix_seq opm_ix (em_ix ix_seq opm_ix (em_var (pv 2)) (em_var (pv 4)) (fun _ _ => rfl)) (em_var (pv 5)) (fun _ _ => rfl)) (em_one (em_ix ix_seq opm_ix (em_ix ix_seq opm_ix (em_var (pv 2)) (em_var (pv 7)) (fun _ _ => rfl)) (em_var (pv 5)) (fun _ _ => rfl)))))))) (em_var (pv 2)) (em_var (pv 4)))) ss_nil)))))))))
    (ss_one (s_ret (em_frz (em_var (pv 2))))))))).imp cut_sp
theorem ok_law_drawn (T : Txt K mg) : FnOk P w K mg base CX0 3 T.a_law_drawn T.d_law_drawn ["tape", "most"] (spM K mg 2 f_law_drawn) := (fn_mir (k := 2) (m := m_law_drawn) T.F_law_drawn sc_law_drawn fun cdv A outer s H E hr =>
    (ss_cons (s_set (i := 2) sc_law_drawn.nd rfl (Or.inl rfl) (em_call (ok_law_draw T) n_law_draw (hr.mono (by decide)) (by rfl) T.g_law_draw T.F_law_draw.kp (bi_law_draw T) .nil (fun _ => .nil) (am_cons (em_var (pv 0)) (am_cons (em_op op_addA opm_add (em_var (pv 1)) em_int) am_nil))))
    (ss_cons (s_set (i := 3) sc_law_drawn.nd rfl (Or.inl rfl) (em_call (ok_law_draw T) n_law_draw (hr.mono (by decide)) (by rfl) T.g_law_draw T.F_law_draw.kp (bi_law_draw T) .nil (fun _ => .nil) (am_cons (em_var (pv 0)) (am_cons em_int am_nil))))
    (ss_cons (s_set (i := 4) sc_law_drawn.nd rfl (Or.inl rfl) (em_ref (lm_lst am_nil)))
    (ss_cons (s_if (bm_cmp (op_eqA hr.units) opm_eq (em_var (pv 3)) em_int (nomark _)) (ss_cons (s_set (i := 5) sc_law_drawn.nd rfl (Or.inl rfl) (em_op op_fdiv opm_div (em_var (pv 2)) em_int))
    (ss_cons (s_pre (vs := [6]) (s_for PassesOwn.never rfl (im_rng1 (by rfl) T.b_range (am_cons (em_var (pv 5)) am_nil)) (pg_name (i := 6) sc_law_drawn.nd rfl (by first | exact Or.inl rfl | exact Or.inr rfl)) (tg_one 6) (ss_wip (vs := [6]) (ss_one (s_set (i := 4) sc_law_drawn.nd rfl (Or.inl rfl) (em_ref (lm_cat (em_var (pv 4)) (em_fls (lm_lst (am_cons (em_tup (am_cons (em_var (pv 6)) (am_cons (em_op op_addA opm_add (em_var (pv 5)) (em_var (pv 6))) am_nil))) (am_cons (em_tup (am_cons (em_op op_mod opm_mod (em_bty call_int1 cm_int (by rfl) T.b_int PyProof.Rows.boot_int (am_cons (em_op op_addA opm_add (em_var (pv 6)) em_int) am_nil)) (em_var (pv 5))) (am_cons (em_op op_addA opm_add (em_var (pv 5)) (em_var (pv 6))) am_nil))) am_nil)))))))))))
    (ss_one (s_ret (em_call (ok_law_closed T) n_law_closed (hr.mono (by decide)) (by rfl) T.g_law_closed T.F_law_closed.kp (bi_law_closed T) .nil (fun _ => .nil) (am_cons (em_var (pv 2)) (am_cons (em_var (pv 4)) am_nil))))))) ss_nil)
    (ss_cons (s_set (i := 7) sc_law_drawn.nd rfl (Or.inl rfl) (em_op op_addA opm_add em_int (em_call (ok_law_draw T) n_law_draw (hr.mono (by decide)) (by rfl) T.g_law_draw T.F_law_draw.kp (bi_law_draw T) .nil (fun _ => .nil) (am_cons (em_var (pv 0)) (am_cons em_int am_nil)))))
    (ss_cons (s_set (i := 8) sc_law_drawn.nd rfl (Or.inl rfl) (em_fls (lm_rep (em_fls (lm_lst (am_cons em_int am_nil))) (em_var (pv 2)))))
    (ss_cons (s_if (bm_cmp (op_eqA hr.units) opm_eq (em_var (pv 3)) em_int (nomark _)) (ss_one (s_lcF (tc_one (by decide)) (ps_setLc (i := 8) (own := [("k", 6)]) rfl sc_law_drawn.nd rfl rfl (sw_true rfl rfl rfl (by decide +kernel)) (im_rng1 (by rfl) T.b_range (am_cons (em_var (pv 2)) am_nil)) (blkOk_by (by kernel_rfl)) (fun _ _ _ _ _ => (pg_name (i := 6) sc_law_drawn.nd rfl (by first | exact Or.inl rfl | exact Or.inr rfl))) (fun _ _ _ _ _ => pts_y) (fun _ _ _ _ _ => (em_call (ok_law_draw T) n_law_draw (hr.mono (by decide)) (by rfl) T.g_law_draw T.F_law_draw.kp (bi_law_draw T) .nil (fun _ => .nil) (am_cons (em_var (pv 0)) (am_cons em_int am_nil))))))) ss_nil)
    (ss_cons (s_pre (vs := [9, 10]) (s_for PassesOwn.never rfl (im_rng1 (by rfl) T.b_range (am_cons (em_var (pv 2)) am_nil)) (pg_name (i := 9) sc_law_drawn.nd rfl (by first | exact Or.inl rfl | exact Or.inr rfl)) (tg_one 9) (ss_wip (vs := [9, 10]) (ss_one (s_pre (vs := [10]) (s_for PassesOwn.never rfl (im_rng2 (by rfl) T.b_range (am_cons (em_op op_addA opm_add (em_var (pv 9)) em_int) (am_cons (em_var (pv 2)) am_nil))) (pg_name (i := 10) sc_law_drawn.nd rfl (by first | exact Or.inl rfl | exact Or.inr rfl)) (tg_one 10) (ss_wip (vs := [10]) (ss_cons (s_if (bm_w (wm_and (bm_cmp (op_eqA hr.units) opm_eq (em_var (pv 3)) em_int (nomark _)) (wm_and (bm_cmp op_lt opm_lt (em_ix ix_seq opm_ix (em_var (pv 8)) (em_var (pv 9)) (fun _ _ => rfl)) (em_ix ix_seq opm_ix (em_var (pv 8)) (em_var (pv 10)) (fun _ _ => rfl)) (nomark _)) (wm_and1 (bm_cmp op_gt opm_gt (em_call (ok_law_draw T) n_law_draw (hr.mono (by decide)) (by rfl) T.g_law_draw T.F_law_draw.kp (bi_law_draw T) .nil (fun _ => .nil) (am_cons (em_var (pv 0)) (am_cons em_int am_nil))) em_int (nomark _)))))) (ss_one (s_expr (em_mth mm_app (pe_bm PySem.F.plainAttrs_list PySem.F.slot_list_append PySem.F.type_list_append mt_append (em_var (pv 4)) (am_cons (em_tup (am_cons (em_var (pv 9)) (am_cons (em_var (pv 10)) am_nil))) am_nil))))) ss_nil)
    (ss_one (s_if (bm_w (wm_and (bm_cmp op_lt opm_lt (em_var (pv 3)) em_int (nomark _)) (wm_and1 (bm_cmp (op_eqA hr.units) opm_eq (em_call (ok_law_draw T) n_law_draw (hr.mono (by decide)) (by rfl) T.g_law_draw T.F_law_draw.kp (bi_law_draw T) .nil (fun _ => .nil) (am_cons (em_var (pv 0)) (am_cons (em_var (pv 7)) am_nil))) em_int (nomark _))))) (ss_one (s_expr (em_mth mm_app (pe_bm PySem.F.plainAttrs_list PySem.F.slot_list_append PySem.F.type_list_append mt_append (em_var (pv 4)) (am_cons (em_tup (am_cons (em_var (pv 9)) (am_cons (em_var (pv 10)) am_nil))) am_nil))))) ss_nil))))))))))
    (ss_one (s_ret (em_call (ok_law_closed T) n_law_closed (hr.mono (by decide)) (by rfl) T.g_law_closed T.F_law_closed.kp (bi_law_closed T) .nil (fun _ => .nil) (am_cons (em_var (pv 2)) (am_cons (em_var (pv 4)) am_nil)))))))))))))).imp cut_sp
theorem ok_law_told (T : Txt K mg) : FnOk P w K mg base CX0 1 T.a_law_told T.d_law_told ["up", "names"] (spM K mg 2 f_law_told) := fn_mir T.F_law_told sc_law_told fun cdv A outer s H E hr =>
    (ss_cons (s_set (i := 2) sc_law_told.nd rfl (Or.inl rfl) (em_fls (lm_lst am_nil)))
    (ss_cons (s_pre (vs := [3]) (s_for PassesOwn.never rfl (im_rng1 (by rfl) T.b_range (am_cons (em_blt call_len cm_len (by rfl) T.b_len PySem.boot_len (am_cons (em_var (pv 0)) am_nil)) am_nil)) (pg_name (i := 3) sc_law_told.nd rfl (by first | exact Or.inl rfl | exact Or.inr rfl)) (tg_one 3) (ss_wip (vs := [3]) (ss_one (s_set (i := 2) sc_law_told.nd rfl (Or.inl rfl) (em_fls (lm_cat (em_var (pv 2)) (em_fls (lm_lc (tc_one (by decide)) (pe_lc (own := [("y", 4)]) rfl sc_law_told.nd (im_rng1 (by rfl) T.b_range (am_cons (em_blt call_len cm_len (by rfl) T.b_len PySem.boot_len (am_cons (em_var (pv 0)) am_nil)) am_nil)) (blkOk_by (by kernel_rfl)) (fun _ _ _ _ _ => (pg_name (i := 4) sc_law_told.nd rfl (by first | exact Or.inl rfl | exact Or.inr rfl))) (fun _ _ _ _ _ => (pts_M (bm_truth (em_ix ix_seq opm_ix (em_ix ix_seq opm_ix (em_var (pv 0)) (em_var (pv 3)) (fun _ _ => rfl)) (em_var (pv 4)) (fun _ _ => rfl)) fun _ => rfl))) (fun _ _ _ _ _ => (em_tup (am_cons (em_ix ix_seq opm_ix (em_var (pv 1)) (em_var (pv 3)) (fun _ _ => rfl)) (am_cons (em_ix ix_seq opm_ix (em_var (pv 1)) (em_var (pv 4)) (fun _ _ => rfl)) am_nil))))))))))))))
    (ss_one (s_ret (em_tup (am_cons (em_blt call_len cm_len (by rfl) T.b_len PySem.boot_len (am_cons (em_var (pv 0)) am_nil)) (am_cons (em_bty call_tuple_of cm_tup (by rfl) T.b_tuple PyProof.Rows.boot_tuple (am_cons (em_fls (lm_blt cr_sortedPO cl_sortP (by rfl) T.b_sorted PyProof.Rows.boot_sorted (am_cons (em_var (pv 2)) am_nil))) am_nil)) am_nil)))))))
theorem ok_law_fits (T : Txt K mg) : FnOk P w K mg base CX0 1 T.a_law_fits T.d_law_fits ["up", "row", "x", "value"] (spM K mg 4 f_law_fits) := fn_mir T.F_law_fits sc_law_fits fun cdv A outer s H E hr =>
    (ss_cons (s_pre (vs := [4]) (s_for PassesOwn.never rfl (im_rng1 (by rfl) T.b_range (am_cons (em_blt call_len cm_len (by rfl) T.b_len PySem.boot_len (am_cons (em_var (pv 0)) am_nil)) am_nil)) (pg_name (i := 4) sc_law_fits.nd rfl (by first | exact Or.inl rfl | exact Or.inr rfl)) (tg_one 4) (ss_wip (vs := [4]) (ss_cons (s_if (bm_w (wm_and (bm_truth (em_ix ix_seq opm_ix (em_ix ix_seq opm_ix (em_var (pv 0)) (em_var (pv 4)) (fun _ _ => rfl)) (em_var (pv 2)) (fun _ _ => rfl)) fun _ => rfl) (wm_and (bm_cmp (op_neA hr.units) opm_ne (em_ix ix_seq opm_ix (em_var (pv 1)) (em_var (pv 4)) (fun _ _ => rfl)) (em_var (pv 3)) (nomark _)) (wm_and1 (bm_not (bm_truth (em_ix ix_seq opm_ix (em_ix ix_seq opm_ix (em_var (pv 0)) (em_ix ix_seq opm_ix (em_var (pv 1)) (em_var (pv 4)) (fun _ _ => rfl)) (fun _ _ => rfl)) (em_var (pv 3)) (fun _ _ => rfl)) fun _ => rfl)))))) (ss_one (s_ret em_bl)) ss_nil)
    (ss_one (s_if (bm_w (wm_and (bm_truth (em_ix ix_seq opm_ix (em_ix ix_seq opm_ix (em_var (pv 0)) (em_var (pv 2)) (fun _ _ => rfl)) (em_var (pv 4)) (fun _ _ => rfl)) fun _ => rfl) (wm_and (bm_cmp (op_neA hr.units) opm_ne (em_ix ix_seq opm_ix (em_var (pv 1)) (em_var (pv 4)) (fun _ _ => rfl)) (em_var (pv 3)) (nomark _)) (wm_and1 (bm_not (bm_truth (em_ix ix_seq opm_ix (em_ix ix_seq opm_ix (em_var (pv 0)) (em_var (pv 3)) (fun _ _ => rfl)) (em_ix ix_seq opm_ix (em_var (pv 1)) (em_var (pv 4)) (fun _ _ => rfl)) (fun _ _ => rfl)) fun _ => rfl)))))) (ss_one (s_ret em_bl)) ss_nil))))))
    (ss_one (s_ret em_bl)))
theorem ok_law_map (T : Txt K mg) : FnOk P w K mg base CX0 3 T.a_law_map T.d_law_map ["tape", "up"] (spM K mg 2 f_law_map) := (fn_mir (k := 2) (m := m_law_map) T.F_law_map sc_law_map fun cdv A outer s H E hr =>
    (ss_cons (s_set (i := 2) sc_law_map.nd rfl (Or.inl rfl) (em_blt call_len cm_len (by rfl) T.b_len PySem.boot_len (am_cons (em_var (pv 1)) am_nil)))
    (ss_cons (s_set (i := 3) sc_law_map.nd rfl (Or.inl rfl) (em_ref (lm_rg rfl (by rfl) T.b_list (by rfl) T.b_range (em_var (pv 2)))))
    (ss_cons (s_if (bm_w (wm_and (bm_cmp op_gt opm_gt (em_var (pv 2)) em_int (nomark _)) (wm_and1 (bm_cmp (op_eqA hr.units) opm_eq (em_call (ok_law_draw T) n_law_draw (hr.mono (by decide)) (by rfl) T.g_law_draw T.F_law_draw.kp (bi_law_draw T) .nil (fun _ => .nil) (am_cons (em_var (pv 0)) (am_cons em_int am_nil))) em_int (nomark _))))) (ss_one (s_set (i := 3) sc_law_map.nd rfl (Or.inl rfl) (em_ref (lm_rep (em_fls (lm_lst (am_cons (em_call (ok_law_draw T) n_law_draw (hr.mono (by decide)) (by rfl) T.g_law_draw T.F_law_draw.kp (bi_law_draw T) .nil (fun _ => .nil) (am_cons (em_var (pv 0)) (am_cons (em_var (pv 2)) am_nil))) am_nil))) (em_var (pv 2)))))) ss_nil)
    (ss_cons (s_pre (vs := [4, 5, 6]) (s_for PassesOwn.never rfl (im_rng1 (by rfl) T.b_range (am_cons (em_call (ok_law_draw T) n_law_draw (hr.mono (by decide)) (by rfl) T.g_law_draw T.F_law_draw.kp (bi_law_draw T) .nil (fun _ => .nil) (am_cons (em_var (pv 0)) (am_cons (em_op op_addA opm_add (em_op op_mul opm_mul em_int (em_var (pv 2))) em_int) am_nil))) am_nil)) (pg_name (i := 4) sc_law_map.nd rfl (by first | exact Or.inl rfl | exact Or.inr rfl)) (tg_one 4) (ss_wip (vs := [4, 5, 6]) (ss_cons (s_set (i := 5) sc_law_map.nd rfl (Or.inl rfl) (em_call (ok_law_draw T) n_law_draw (hr.mono (by decide)) (by rfl) T.g_law_draw T.F_law_draw.kp (bi_law_draw T) .nil (fun _ => .nil) (am_cons (em_var (pv 0)) (am_cons (em_var (pv 2)) am_nil))))
    (ss_cons (s_set (i := 6) sc_law_map.nd rfl (Or.inl rfl) (em_call (ok_law_draw T) n_law_draw (hr.mono (by decide)) (by rfl) T.g_law_draw T.F_law_draw.kp (bi_law_draw T) .nil (fun _ => .nil) (am_cons (em_var (pv 0)) (am_cons (em_var (pv 2)) am_nil))))
    (ss_one (s_if (bm_truth (em_call (ok_law_fits T) n_law_fits (hr.mono (by decide)) (by rfl) T.g_law_fits T.F_law_fits.kp (bi_law_fits T) .nil (fun _ => .nil) (am_cons (em_var (pv 1)) (am_cons (em_var (pv 3)) (am_cons (em_var (pv 5)) (am_cons (em_var (pv 6)) am_nil))))) fun _ => rfl) (ss_one (s_sub (em_var (pv 6)) (em_var (pv 3)) (em_var (pv 5)))) ss_nil)))))))
    (ss_one (s_ret (em_frz (em_var (pv 3)))))))))).imp cut_sp
theorem ok_law_named (T : Txt K mg) : FnOk P w K mg base CX0 1 T.a_law_named T.d_law_named ["names", "row"] (spM K mg 2 f_law_named) := (fn_mir (k := 0) (m := m_law_named) T.F_law_named sc_law_named fun cdv A outer s H E hr =>
    (ss_cons (s_set (i := 2) sc_law_named.nd rfl (Or.inl rfl) (em_ref (lm_rep (em_fls (lm_lst (am_cons em_int am_nil))) (em_blt call_len cm_len (by rfl) T.b_len PySem.boot_len (am_cons (em_var (pv 1)) am_nil)))))
    (ss_cons (s_pre (vs := [3]) (s_for PassesOwn.never rfl (im_rng1 (by rfl) T.b_range (am_cons (em_blt call_len cm_len (by rfl) T.b_len PySem.boot_len (am_cons (em_var (pv 1)) am_nil)) am_nil)) (pg_name (i := 3) sc_law_named.nd rfl (by first | exact Or.inl rfl | exact Or.inr rfl)) (tg_one 3) (ss_wip (vs := [3]) (ss_one (s_sub (em_ix ix_seq opm_ix (em_var (pv 0)) (em_ix ix_seq opm_ix (em_var (pv 1)) (em_var (pv 3)) (fun _ _ => rfl)) (fun _ _ => rfl)) (em_var (pv 2)) (em_ix ix_seq opm_ix (em_var (pv 0)) (em_var (pv 3)) (fun _ _ => rfl)))))))
    (ss_one (s_ret (em_bty call_tuple_of cm_tup (by rfl) T.b_tuple PyProof.Rows.boot_tuple (am_cons (em_var (pv 2)) am_nil))))))).imp cut_sp
theorem ok_law_covers (T : Txt K mg) : FnOk P w K mg base CX0 1 T.a_law_covers T.d_law_covers ["up"] (spM K mg 1 f_law_covers) := (fn_mir (k := 0) (m := m_law_covers) T.F_law_covers sc_law_covers fun cdv A outer s H E hr =>
    (ss_cons (s_set (i := 1) sc_law_covers.nd rfl (Or.inl rfl) (em_blt call_len cm_len (by rfl) T.b_len PySem.boot_len (am_cons (em_var (pv 0)) am_nil)))
    (ss_cons (s_set (i := 2) sc_law_covers.nd rfl (Or.inl rfl) (em_ref (lm_lst am_nil)))
    (ss_cons (s_pre (vs := [3, 4, 6, 7]) (s_for PassesOwn.never rfl (im_rng1 (by rfl) T.b_range (am_cons (em_var (pv 1)) am_nil)) (pg_name (i := 3) sc_law_covers.nd rfl (by first | exact Or.inl rfl | exact Or.inr rfl)) (tg_one 3) (ss_wip (vs := [3, 4, 6, 7]) (ss_cons (s_set (i := 4) sc_law_covers.nd rfl (Or.inr rfl) (em_fls (lm_lc (tc_one (by decide)) (pe_lc (own := [("y", 5)]) rfl sc_law_covers.nd (im_rng1 (by rfl) T.b_range (am_cons (em_var (pv 1)) am_nil)) (blkOk_by (by kernel_rfl)) (fun _ _ _ _ _ => (pg_name (i := 5) sc_law_covers.nd rfl (by first | exact Or.inl rfl | exact Or.inr rfl))) (fun _ _ _ _ _ => (pts_M (bm_truth (em_ix ix_seq opm_ix (em_ix ix_seq opm_ix (em_var (pv 0)) (em_var (pv 3)) (fun _ _ => rfl)) (em_var (pv 5)) (fun _ _ => rfl)) fun _ => rfl))) (fun _ _ _ _ _ => (em_var (pv 5)))))))
    (ss_cons (s_set (i := 6) sc_law_covers.nd rfl (Or.inr rfl) (em_fls (lm_lc (tc_one (by decide)) (pe_lc (own := [("y", 5)]) rfl sc_law_covers.nd (im_rng1 (by rfl) T.b_range (am_cons (em_var (pv 1)) am_nil)) (blkOk_by (by kernel_rfl)) (fun _ _ _ _ _ => (pg_name (i := 5) sc_law_covers.nd rfl (by first | exact Or.inl rfl | exact Or.inr rfl))) (fun _ _ _ _ _ => (pts_M (bm_truth (em_ix ix_seq opm_ix (em_ix ix_seq opm_ix (em_var (pv 0)) (em_var (pv 5)) (fun _ _ => rfl)) (em_var (pv 3)) (fun _ _ => rfl)) fun _ => rfl))) (fun _ _ _ _ _ => (em_var (pv 5)))))))
    (ss_cons (s_lcF (tc_one (by decide)) (ps_setLc (i := 7) (own := [("y", 5)]) rfl sc_law_covers.nd rfl rfl (sw_true rfl rfl rfl (by decide +kernel)) (im_seq (em_var (pv 4))) (blkOk_by (by kernel_rfl)) (fun _ _ _ _ _ => (pg_name (i := 5) sc_law_covers.nd rfl (by first | exact Or.inl rfl | exact Or.inr rfl))) (fun _ _ _ _ _ => (pts_M (bm_cmp (op_eqA hr.units) opm_eq (em_blt call_len cm_len (by rfl) T.b_len PySem.boot_len (am_cons (em_fls (lm_lc (tc_one (by decide)) (pe_lc (own := [("z", 8)]) rfl sc_law_covers.nd (im_seq (em_var (pv 4))) (blkOk_by (by kernel_rfl)) (fun _ _ _ _ _ => (pg_name (i := 8) sc_law_covers.nd rfl (by first | exact Or.inl rfl | exact Or.inr rfl))) (fun _ _ _ _ _ => (pts_M (bm_truth (em_ix ix_seq opm_ix (em_ix ix_seq opm_ix (em_var (pv 0)) (em_var (pv 8)) (fun _ _ => rfl)) (em_var (pv 5)) (fun _ _ => rfl)) fun _ => rfl))) (fun _ _ _ _ _ => (em_var (pv 8)))))) am_nil)) em_int (nomark _)))) (fun _ _ _ _ _ => (em_var (pv 5)))))
    (ss_one (s_expr (em_mth mm_app (pe_bm PySem.F.plainAttrs_list PySem.F.slot_list_append PySem.F.type_list_append mt_append (em_var (pv 2)) (am_cons (em_fls (lm_cat (em_var (pv 7)) (em_fls (lm_lc (tc_one (by decide)) (pe_lc (own := [("y", 5)]) rfl sc_law_covers.nd (im_seq (em_var (pv 6))) (blkOk_by (by kernel_rfl)) (fun _ _ _ _ _ => (pg_name (i := 5) sc_law_covers.nd rfl (by first | exact Or.inl rfl | exact Or.inr rfl))) (fun _ _ _ _ _ => (pts_M (bm_cmp (op_eqA hr.units) opm_eq (em_blt call_len cm_len (by rfl) T.b_len PySem.boot_len (am_cons (em_fls (lm_lc (tc_one (by decide)) (pe_lc (own := [("z", 8)]) rfl sc_law_covers.nd (im_seq (em_var (pv 6))) (blkOk_by (by kernel_rfl)) (fun _ _ _ _ _ => (pg_name (i := 8) sc_law_covers.nd rfl (by first | exact Or.inl rfl | exact Or.inr rfl))) (fun _ _ _ _ _ => (pts_M (bm_truth (em_ix ix_seq opm_ix (em_ix ix_seq opm_ix (em_var (pv 0)) (em_var (pv 5)) (fun _ _ => rfl)) (em_var (pv 8)) (fun _ _ => rfl)) fun _ => rfl))) (fun _ _ _ _ _ => (em_var (pv 8)))))) am_nil)) em_int (nomark _)))) (fun _ _ _ _ _ => (em_var (pv 5)))))))) am_nil)))))))))))
    (ss_one (s_ret (em_frz (em_var (pv 2))))))))).imp cut_sp
theorem ok_law_signs (T : Txt K mg) : FnOk P w K mg base CX0 1 T.a_law_signs T.d_law_signs ["up"] (spM K mg 1 f_law_signs) := (fn_mir (k := 0) (m := m_law_signs) T.F_law_signs sc_law_signs fun cdv A outer s H E hr =>
    (ss_cons (s_set (i := 1) sc_law_signs.nd rfl (Or.inr rfl) (em_blt call_len cm_len (by rfl) T.b_len PySem.boot_len (am_cons (em_var (pv 0)) am_nil)))
    (ss_cons (s_set (i := 2) sc_law_signs.nd rfl (Or.inl rfl) (em_fls (lm_blt cr_sortedPO cl_sortP (by rfl) T.b_sorted PyProof.Rows.boot_sorted (am_cons (em_fls (lm_lc (tc_one (by decide)) (pe_lc (own := [("x", 4)]) rfl sc_law_signs.nd (im_rng1 (by rfl) T.b_range (am_cons (em_var (pv 1)) am_nil)) (blkOk_by (by kernel_rfl)) (fun _ _ _ _ _ => (pg_name (i := 4) sc_law_signs.nd rfl (by first | exact Or.inl rfl | exact Or.inr rfl))) (fun _ _ _ _ _ => pts_y) (fun _ _ _ _ _ => (em_tup (am_cons (em_blt call_len cm_len (by rfl) T.b_len PySem.boot_len (am_cons (em_fls (lm_lc (tc_one (by decide)) (pe_lc (own := [("y", 3)]) rfl sc_law_signs.nd (im_rng1 (by rfl) T.b_range (am_cons (em_var (pv 1)) am_nil)) (blkOk_by (by kernel_rfl)) (fun _ _ _ _ _ => (pg_name (i := 3) sc_law_signs.nd rfl (by first | exact Or.inl rfl | exact Or.inr rfl))) (fun _ _ _ _ _ => (pts_M (bm_truth (em_ix ix_seq opm_ix (em_ix ix_seq opm_ix (em_var (pv 0)) (em_var (pv 3)) (fun _ _ => rfl)) (em_var (pv 4)) (fun _ _ => rfl)) fun _ => rfl))) (fun _ _ _ _ _ => (em_var (pv 3)))))) am_nil)) (am_cons (em_var (pv 4)) am_nil))))))) am_nil))))
    (ss_cons (s_set (i := 5) sc_law_signs.nd rfl (Or.inr rfl) (em_ref (lm_rep (em_fls (lm_lst (am_cons em_int am_nil))) (em_var (pv 1)))))
    (ss_cons (s_pre (vs := [4, 6]) (s_for PassesOwn.never rfl (im_seq (em_var (pv 2))) (pg_tup rfl (pgs_cons (pg_name (i := 6) sc_law_signs.nd rfl (by first | exact Or.inl rfl | exact Or.inr rfl)) (pgs_cons (pg_name (i := 4) sc_law_signs.nd rfl (by first | exact Or.inl rfl | exact Or.inr rfl)) pgs_nil))) (tg_tup [6, 4]) (ss_wip (vs := [4, 6]) (ss_one (s_sub (em_op op_sub opm_sub em_int (em_blt (cr_sum rfl) cm_sum (by rfl) T.b_sum PyProof.Rows.boot_sum (am_cons (em_fls (lm_lc (tc_one (by decide)) (pe_lc (own := [("y", 3)]) rfl sc_law_signs.nd (im_rng1 (by rfl) T.b_range (am_cons (em_var (pv 1)) am_nil)) (blkOk_by (by kernel_rfl)) (fun _ _ _ _ _ => (pg_name (i := 3) sc_law_signs.nd rfl (by first | exact Or.inl rfl | exact Or.inr rfl))) (fun _ _ _ _ _ => (pts_M (bm_truth (em_ix ix_seq opm_ix (em_ix ix_seq opm_ix (em_var (pv 0)) (em_var (pv 3)) (fun _ _ => rfl)) (em_var (pv 4)) (fun _ _ => rfl)) fun _ => rfl))) (fun _ _ _ _ _ => (em_ix ix_seq opm_ix (em_var (pv 5)) (em_var (pv 3)) (fun _ _ => rfl)))))) am_nil))) (em_var (pv 5)) (em_var (pv 4)))))))
    (ss_one (s_ret (em_frz (em_var (pv 5)))))))))).imp cut_sp
theorem ok_law_number (T : Txt K mg) : FnOk P w K mg base CX0 2 T.a_law_number T.d_law_number ["up", "row"] (spM K mg 2 f_law_number) := fn_mir T.F_law_number sc_law_number fun cdv A outer s H E hr =>
    (ss_cons (s_set (i := 2) sc_law_number.nd rfl (Or.inr rfl) (em_fls (lm_lc (tc_one (by decide)) (pe_lc (own := [("x", 3)]) rfl sc_law_number.nd (im_rng1 (by rfl) T.b_range (am_cons (em_blt call_len cm_len (by rfl) T.b_len PySem.boot_len (am_cons (em_var (pv 0)) am_nil)) am_nil)) (blkOk_by (by kernel_rfl)) (fun _ _ _ _ _ => (pg_name (i := 3) sc_law_number.nd rfl (by first | exact Or.inl rfl | exact Or.inr rfl))) (fun _ _ _ _ _ => (pts_M (bm_cmp (op_eqA hr.units) opm_eq (em_ix ix_seq opm_ix (em_var (pv 1)) (em_var (pv 3)) (fun _ _ => rfl)) (em_var (pv 3)) (nomark _)))) (fun _ _ _ _ _ => (em_var (pv 3)))))))
    (ss_one (s_ret (em_blt (cr_sum rfl) cm_sum (by rfl) T.b_sum PyProof.Rows.boot_sum (am_cons (em_call (ok_law_signs T) n_law_signs (hr.mono (by decide)) (by rfl) T.g_law_signs T.F_law_signs.kp (bi_law_signs T) .nil (fun _ => .nil) (am_cons (em_fls (lm_lc (tc_one (by decide)) (pe_lc (own := [("x", 3)]) rfl sc_law_number.nd (im_seq (em_var (pv 2))) (blkOk_by (by kernel_rfl)) (fun _ _ _ _ _ => (pg_name (i := 3) sc_law_number.nd rfl (by first | exact Or.inl rfl | exact Or.inr rfl))) (fun _ _ _ _ _ => pts_y) (fun _ _ _ _ _ => (em_fls (lm_lc (tc_one (by decide)) (pe_lc (own := [("y", 4)]) rfl sc_law_number.nd (im_seq (em_var (pv 2))) (blkOk_by (by kernel_rfl)) (fun _ _ _ _ _ => (pg_name (i := 4) sc_law_number.nd rfl (by first | exact Or.inl rfl | exact Or.inr rfl))) (fun _ _ _ _ _ => pts_y) (fun _ _ _ _ _ => (em_ix ix_seq opm_ix (em_ix ix_seq opm_ix (em_var (pv 0)) (em_var (pv 3)) (fun _ _ => rfl)) (em_var (pv 4)) (fun _ _ => rfl)))))))))) am_nil)) am_nil)))))
theorem ok_law_walked (T : Txt K mg) : FnOk P w K mg base CX0 3 T.a_law_walked T.d_law_walked ["tape", "up", "near", "row", "many"] (spM K mg 5 f_law_walked) := (fn_mir (k := 2) (m := m_law_walked) T.F_law_walked sc_law_walked fun cdv A outer s H E hr =>
    (ss_cons (s_set (i := 3) sc_law_walked.nd rfl (Or.inl rfl) (em_ref (lm_bty call_list_of cl_lst (by rfl) T.b_list PyProof.Rows.boot_list (am_cons (em_var (pv 3)) am_nil))))
    (ss_cons (s_pre (vs := [5, 6, 7, 8]) (s_for PassesOwn.never rfl (im_rng1 (by rfl) T.b_range (am_cons (em_var (pv 4)) am_nil)) (pg_name (i := 5) sc_law_walked.nd rfl (by first | exact Or.inl rfl | exact Or.inr rfl)) (tg_one 5) (ss_wip (vs := [5, 6, 7, 8]) (ss_cons (s_set (i := 6) sc_law_walked.nd rfl (Or.inl rfl) (em_call (ok_law_draw T) n_law_draw (hr.mono (by decide)) (by rfl) T.g_law_draw T.F_law_draw.kp (bi_law_draw T) .nil (fun _ => .nil) (am_cons (em_var (pv 0)) (am_cons (em_blt call_len cm_len (by rfl) T.b_len PySem.boot_len (am_cons (em_var (pv 1)) am_nil)) am_nil))))
    (ss_cons (s_set (i := 7) sc_law_walked.nd rfl (Or.inl rfl) (em_ix ix_seq opm_ix (em_var (pv 2)) (em_ix ix_seq opm_ix (em_var (pv 3)) (em_var (pv 6)) (fun _ _ => rfl)) (fun _ _ => rfl)))
    (ss_one (s_if (bm_cmp op_gt opm_gt (em_blt call_len cm_len (by rfl) T.b_len PySem.boot_len (am_cons (em_var (pv 7)) am_nil)) em_int (nomark _)) (ss_cons (s_set (i := 8) sc_law_walked.nd rfl (Or.inl rfl) (em_ix ix_seq opm_ix (em_var (pv 7)) (em_call (ok_law_draw T) n_law_draw (hr.mono (by decide)) (by rfl) T.g_law_draw T.F_law_draw.kp (bi_law_draw T) .nil (fun _ => .nil) (am_cons (em_var (pv 0)) (am_cons (em_blt call_len cm_len (by rfl) T.b_len PySem.boot_len (am_cons (em_var (pv 7)) am_nil)) am_nil))) (fun _ _ => rfl)))
    (ss_one (s_if (bm_truth (em_call (ok_law_fits T) n_law_fits (hr.mono (by decide)) (by rfl) T.g_law_fits T.F_law_fits.kp (bi_law_fits T) .nil (fun _ => .nil) (am_cons (em_var (pv 1)) (am_cons (em_var (pv 3)) (am_cons (em_var (pv 6)) (am_cons (em_var (pv 8)) am_nil))))) fun _ => rfl) (ss_one (s_sub (em_var (pv 8)) (em_var (pv 3)) (em_var (pv 6)))) ss_nil))) ss_nil)))))))
    (ss_one (s_ret (em_frz (em_var (pv 3)))))))).imp cut_sp
theorem ok_law (T : Txt K mg) : FnOk P w K mg base CX0 10 T.a_law T.d_law ["script"] (spM K mg 1 f_law) := fn_mir T.F_law sc_law fun cdv A outer s H E hr =>
    (ss_cons (s_set (i := 1) sc_law.nd rfl (Or.inl rfl) (em_call (ok_law_tape T) n_law_tape (hr.mono (by decide)) (by rfl) T.g_law_tape T.F_law_tape.kp (bi_law_tape T) .nil (fun _ => .nil) (am_cons (em_var (pv 0)) am_nil)))
    (ss_cons (s_set (i := 2) sc_law.nd rfl (Or.inl rfl) (em_call (ok_law_drawn T) n_law_drawn (hr.mono (by decide)) (by rfl) T.g_law_drawn T.F_law_drawn.kp (bi_law_drawn T) .nil (fun _ => .nil) (am_cons (em_var (pv 1)) (am_cons em_int am_nil))))
    (ss_cons (s_if (bm_cmp (op_eqA hr.units) opm_eq (em_blt call_len cm_len (by rfl) T.b_len PySem.boot_len (am_cons (em_var (pv 2)) am_nil)) em_int (nomark _)) (ss_one (s_set (i := 2) sc_law.nd rfl (Or.inl rfl) (em_fls (lm_lst (am_cons (em_fls (lm_lst (am_cons em_bl am_nil))) am_nil))))) ss_nil)
    (ss_cons (s_set (i := 3) sc_law.nd rfl (Or.inl rfl) (em_call (ok_law_covers T) n_law_covers (hr.mono (by decide)) (by rfl) T.g_law_covers T.F_law_covers.kp (bi_law_covers T) .nil (fun _ => .nil) (am_cons (em_var (pv 2)) am_nil)))
    (ss_cons (s_set (i := 4) sc_law.nd rfl (Or.inr rfl) (em_call (ok_law_shuffled T) n_law_shuffled (hr.mono (by decide)) (by rfl) T.g_law_shuffled T.F_law_shuffled.kp (bi_law_shuffled T) .nil (fun _ => .nil) (am_cons (em_var (pv 1)) (am_cons (em_blt call_len cm_len (by rfl) T.b_len PySem.boot_len (am_cons (em_var (pv 2)) am_nil)) am_nil))))
    (ss_cons (s_set (i := 5) sc_law.nd rfl (Or.inl rfl) (em_call (ok_law_told T) n_law_told (hr.mono (by decide)) (by rfl) T.g_law_told T.F_law_told.kp (bi_law_told T) .nil (fun _ => .nil) (am_cons (em_var (pv 2)) (am_cons (em_var (pv 4)) am_nil))))
    (ss_cons (s_pre (vs := [6, 7, 8, 9, 10, 11]) (s_for PassesOwn.never rfl (im_rng1 (by rfl) T.b_range (am_cons em_int am_nil)) (pg_name (i := 6) sc_law.nd rfl (by first | exact Or.inl rfl | exact Or.inr rfl)) (tg_one 6) (ss_wip (vs := [6, 7, 8, 9, 10, 11]) (ss_cons (s_set (i := 7) sc_law.nd rfl (Or.inr rfl) (em_call (ok_law_map T) n_law_map (hr.mono (by decide)) (by rfl) T.g_law_map T.F_law_map.kp (bi_law_map T) .nil (fun _ => .nil) (am_cons (em_var (pv 1)) (am_cons (em_var (pv 2)) am_nil))))
    (ss_cons (s_set (i := 8) sc_law.nd rfl (Or.inl rfl) (em_call (ok_law_number T) n_law_number (hr.mono (by decide)) (by rfl) T.g_law_number T.F_law_number.kp (bi_law_number T) .nil (fun _ => .nil) (am_cons (em_var (pv 2)) (am_cons (em_var (pv 7)) am_nil))))
    (ss_cons (s_pre (vs := [9, 10, 11]) (s_for PassesOwn.never rfl (im_rng1 (by rfl) T.b_range (am_cons em_int am_nil)) (pg_name (i := 9) sc_law.nd rfl (by first | exact Or.inl rfl | exact Or.inr rfl)) (tg_one 9) (ss_wip (vs := [9, 10, 11]) (ss_cons (s_set (i := 10) sc_law.nd rfl (Or.inl rfl) (em_call (ok_law_named T) n_law_named (hr.mono (by decide)) (by rfl) T.g_law_named T.F_law_named.kp (bi_law_named T) .nil (fun _ => .nil) (am_cons (em_var (pv 4)) (am_cons (em_var (pv 7)) am_nil))))
    (ss_cons (s_set (i := 11) sc_law.nd rfl (Or.inl rfl) (em_bty call_tuple_of cm_tup (by rfl) T.b_tuple PyProof.Rows.boot_tuple (am_cons (em_fls (lm_blt cr_sortedI cl_sortI (by rfl) T.b_sorted PyProof.Rows.boot_sorted (am_cons (em_fls (lm_lc (tc_one (by decide)) (pe_lc (own := [("x", 12)]) rfl sc_law.nd (im_rng1 (by rfl) T.b_range (am_cons (em_blt call_len cm_len (by rfl) T.b_len PySem.boot_len (am_cons (em_var (pv 2)) am_nil)) am_nil)) (blkOk_by (by kernel_rfl)) (fun _ _ _ _ _ => (pg_name (i := 12) sc_law.nd rfl (by first | exact Or.inl rfl | exact Or.inr rfl))) (fun _ _ _ _ _ => (pts_M (bm_cmp (op_eqA hr.units) opm_eq (em_ix ix_seq opm_ix (em_var (pv 7)) (em_var (pv 12)) (fun _ _ => rfl)) (em_var (pv 12)) (nomark _)))) (fun _ _ _ _ _ => (em_ix ix_seq opm_ix (em_var (pv 4)) (em_var (pv 12)) (fun _ _ => rfl)))))) am_nil))) am_nil)))
    (ss_cons (s_if (bm_w (wm_or (bm_not (bm_truth (em_call (ok_law_same T) n_law_same (hr.mono (by decide)) (by rfl) T.g_law_same T.F_law_same.kp (bi_law_same T) .nil (fun _ => .nil) (am_cons (em_call (ok_lefschetz T) n_lefschetz (hr.mono (by decide)) (by rfl) T.g_lefschetz T.F_lefschetz.kp (bi_lefschetz T) .nil (fun _ => .nil) (am_cons (em_var (pv 5)) (am_cons (em_var (pv 10)) am_nil))) (am_cons (em_var (pv 8)) am_nil))) fun _ => rfl)) (wm_or1 (bm_not (bm_truth (em_call (ok_law_same T) n_law_same (hr.mono (by decide)) (by rfl) T.g_law_same T.F_law_same.kp (bi_law_same T) .nil (fun _ => .nil) (am_cons (em_call (ok_fixed_points T) n_fixed_points (hr.mono (by decide)) (by rfl) T.g_fixed_points T.F_fixed_points.kp (bi_fixed_points T) .nil (fun _ => .nil) (am_cons (em_var (pv 5)) (am_cons (em_var (pv 10)) am_nil))) (am_cons (em_var (pv 11)) am_nil))) fun _ => rfl))))) (ss_one (s_ret em_bl)) ss_nil)
    (ss_one (s_set (i := 7) sc_law.nd rfl (Or.inr rfl) (em_call (ok_law_walked T) n_law_walked (hr.mono (by decide)) (by rfl) T.g_law_walked T.F_law_walked.kp (bi_law_walked T) .nil (fun _ => .nil) (am_cons (em_var (pv 1)) (am_cons (em_var (pv 2)) (am_cons (em_var (pv 3)) (am_cons (em_var (pv 7)) (am_cons (em_op op_addA opm_add em_int (em_call (ok_law_draw T) n_law_draw (hr.mono (by decide)) (by rfl) T.g_law_draw T.F_law_draw.kp (bi_law_draw T) .nil (fun _ => .nil) (am_cons (em_var (pv 1)) (am_cons em_int am_nil)))) am_nil))))))))))))))
    (ss_cons (s_set (i := 10) sc_law.nd rfl (Or.inl rfl) (em_call (ok_law_named T) n_law_named (hr.mono (by decide)) (by rfl) T.g_law_named T.F_law_named.kp (bi_law_named T) .nil (fun _ => .nil) (am_cons (em_var (pv 4)) (am_cons (em_var (pv 7)) am_nil))))
    (ss_cons (s_set (i := 11) sc_law.nd rfl (Or.inl rfl) (em_bty call_tuple_of cm_tup (by rfl) T.b_tuple PyProof.Rows.boot_tuple (am_cons (em_fls (lm_blt cr_sortedI cl_sortI (by rfl) T.b_sorted PyProof.Rows.boot_sorted (am_cons (em_fls (lm_lc (tc_one (by decide)) (pe_lc (own := [("x", 12)]) rfl sc_law.nd (im_rng1 (by rfl) T.b_range (am_cons (em_blt call_len cm_len (by rfl) T.b_len PySem.boot_len (am_cons (em_var (pv 2)) am_nil)) am_nil)) (blkOk_by (by kernel_rfl)) (fun _ _ _ _ _ => (pg_name (i := 12) sc_law.nd rfl (by first | exact Or.inl rfl | exact Or.inr rfl))) (fun _ _ _ _ _ => (pts_M (bm_cmp (op_eqA hr.units) opm_eq (em_ix ix_seq opm_ix (em_var (pv 7)) (em_var (pv 12)) (fun _ _ => rfl)) (em_var (pv 12)) (nomark _)))) (fun _ _ _ _ _ => (em_ix ix_seq opm_ix (em_var (pv 4)) (em_var (pv 12)) (fun _ _ => rfl)))))) am_nil))) am_nil)))
    (ss_cons (s_if (bm_not (bm_truth (em_call (ok_law_same T) n_law_same (hr.mono (by decide)) (by rfl) T.g_law_same T.F_law_same.kp (bi_law_same T) .nil (fun _ => .nil) (am_cons (em_callK0 (ok_lefschetz T) n_lefschetz (hr.mono (by decide)) (by rfl) T.g_lefschetz T.F_lefschetz.kp (kb_lefschetz_0 T) (fun _ => .nil) (km_cons (em_var (pv 10)) (km_cons (em_var (pv 5)) km_nil))) (am_cons (em_var (pv 8)) am_nil))) fun _ => rfl)) (ss_one (s_ret em_bl)) ss_nil)
    (ss_one (s_if (bm_not (bm_truth (em_call (ok_law_same T) n_law_same (hr.mono (by decide)) (by rfl) T.g_law_same T.F_law_same.kp (bi_law_same T) .nil (fun _ => .nil) (am_cons (em_callK0 (ok_fixed_points T) n_fixed_points (hr.mono (by decide)) (by rfl) T.g_fixed_points T.F_fixed_points.kp (kb_fixed_points_0 T) (fun _ => .nil) (km_cons (em_var (pv 10)) (km_cons (em_var (pv 5)) km_nil))) (am_cons (em_var (pv 11)) am_nil))) fun _ => rfl)) (ss_one (s_ret em_bl)) ss_nil)))))))))))
    (ss_one (s_ret em_bl)))))))))
end
end Mi.k59
set_option maxHeartbeats 8000000
namespace Mi.k59
open PySem L2
theorem txt_mk {K : PySem.W.Frag} {h : Heap} {mg : Str → Option Value} {fa : Addr} (X : K.In h) (G : h.Ns mainGlobals mg) (hfa : mg "law" = some (.ref fa)) {f0 : Addr} {od0 an0 : Option Addr} {sl0 : Array (Option Value)} {oc0 kV0 dc0 pm0 cd0 ct0 : Value} {f1 : Addr} {od1 an1 : Option Addr} {sl1 : Array (Option Value)} {oc1 kV1 dc1 pm1 cd1 ct1 : Value} {f2 : Addr} {od2 an2 : Option Addr} {sl2 : Array (Option Value)} {oc2 kV2 dc2 pm2 cd2 ct2 : Value} {f3 : Addr} {od3 an3 : Option Addr} {sl3 : Array (Option Value)} {oc3 kV3 dc3 pm3 cd3 ct3 : Value} {f4 : Addr} {od4 an4 : Option Addr} {sl4 : Array (Option Value)} {oc4 kV4 dc4 pm4 cd4 ct4 : Value} {f5 : Addr} {od5 an5 : Option Addr} {sl5 : Array (Option Value)} {oc5 kV5 dc5 pm5 cd5 ct5 : Value} {f6 : Addr} {od6 an6 : Option Addr} {sl6 : Array (Option Value)} {oc6 kV6 dc6 pm6 cd6 ct6 : Value} {f7 : Addr} {od7 an7 : Option Addr} {sl7 : Array (Option Value)} {oc7 kV7 dc7 pm7 cd7 ct7 : Value} {f8 : Addr} {od8 an8 : Option Addr} {sl8 : Array (Option Value)} {oc8 kV8 dc8 pm8 cd8 ct8 : Value} {f9 : Addr} {od9 an9 : Option Addr} {sl9 : Array (Option Value)} {oc9 kV9 dc9 pm9 cd9 ct9 : Value} {f10 : Addr} {od10 an10 : Option Addr} {sl10 : Array (Option Value)} {oc10 kV10 dc10 pm10 cd10 ct10 : Value} {f11 : Addr} {od11 an11 : Option Addr} {sl11 : Array (Option Value)} {oc11 kV11 dc11 pm11 cd11 ct11 : Value} {f12 : Addr} {od12 an12 : Option Addr} {sl12 : Array (Option Value)} {oc12 kV12 dc12 pm12 cd12 ct12 : Value} {f13 : Addr} {od13 an13 : Option Addr} {sl13 : Array (Option Value)} {oc13 kV13 dc13 pm13 cd13 ct13 : Value} {f14 : Addr} {od14 an14 : Option Addr} {sl14 : Array (Option Value)} {oc14 kV14 dc14 pm14 cd14 ct14 : Value} {f15 : Addr} {od15 an15 : Option Addr} {sl15 : Array (Option Value)} {oc15 kV15 dc15 pm15 cd15 ct15 : Value} {f16 : Addr} {od16 an16 : Option Addr} {sl16 : Array (Option Value)} {oc16 kV16 dc16 pm16 cd16 ct16 : Value} {f17 : Addr} {od17 an17 : Option Addr} {sl17 : Array (Option Value)} {oc17 kV17 dc17 pm17 cd17 ct17 : Value} {f18 : Addr} {od18 an18 : Option Addr} {sl18 : Array (Option Value)} {oc18 kV18 dc18 pm18 cd18 ct18 : Value} {f19 : Addr} {od19 an19 : Option Addr} {sl19 : Array (Option Value)} {oc19 kV19 dc19 pm19 cd19 ct19 : Value} {f20 : Addr} {od20 an20 : Option Addr} {sl20 : Array (Option Value)} {oc20 kV20 dc20 pm20 cd20 ct20 : Value}
    (a0 : PySem.W.nsIn K mainGlobals "fixed_points" = some (some (.ref f0)))
    (l0 : K.lookup f0 = some ⟨oc0, od0, .func (PySem.W.fnOf "fixed_points" "fixed_points" (defArgs s_fixed_points) (defBody s_fixed_points) (defScope s_fixed_points) .none kV0 dc0 pm0 an0 cd0 ct0), sl0⟩)
    (c0 : PySem.W.codeIn K cd0 "fixed_points" = true)
    (k0 : PySem.W.keepIn K (.ref f0) = true)
    (a1 : PySem.W.nsIn K mainGlobals "induced" = some (some (.ref f1)))
    (l1 : K.lookup f1 = some ⟨oc1, od1, .func (PySem.W.fnOf "induced" "induced" (defArgs s_induced) (defBody s_induced) (defScope s_induced) .none kV1 dc1 pm1 an1 cd1 ct1), sl1⟩)
    (c1 : PySem.W.codeIn K cd1 "induced" = true)
    (k1 : PySem.W.keepIn K (.ref f1) = true)
    (a2 : PySem.W.nsIn K mainGlobals "chain_counts" = some (some (.ref f2)))
    (l2 : K.lookup f2 = some ⟨oc2, od2, .func (PySem.W.fnOf "chain_counts" "chain_counts" (defArgs s_chain_counts) (defBody s_chain_counts) (defScope s_chain_counts) .none kV2 dc2 pm2 an2 cd2 ct2), sl2⟩)
    (c2 : PySem.W.codeIn K cd2 "chain_counts" = true)
    (k2 : PySem.W.keepIn K (.ref f2) = true)
    (a3 : PySem.W.nsIn K mainGlobals "euler" = some (some (.ref f3)))
    (l3 : K.lookup f3 = some ⟨oc3, od3, .func (PySem.W.fnOf "euler" "euler" (defArgs s_euler) (defBody s_euler) (defScope s_euler) .none kV3 dc3 pm3 an3 cd3 ct3), sl3⟩)
    (c3 : PySem.W.codeIn K cd3 "euler" = true)
    (k3 : PySem.W.keepIn K (.ref f3) = true)
    (a4 : PySem.W.nsIn K mainGlobals "lefschetz" = some (some (.ref f4)))
    (l4 : K.lookup f4 = some ⟨oc4, od4, .func (PySem.W.fnOf "lefschetz" "lefschetz" (defArgs s_lefschetz) (defBody s_lefschetz) (defScope s_lefschetz) .none kV4 dc4 pm4 an4 cd4 ct4), sl4⟩)
    (c4 : PySem.W.codeIn K cd4 "lefschetz" = true)
    (k4 : PySem.W.keepIn K (.ref f4) = true)
    (a5 : PySem.W.nsIn K mainGlobals "_law_tape" = some (some (.ref f5)))
    (l5 : K.lookup f5 = some ⟨oc5, od5, .func (PySem.W.fnOf "_law_tape" "_law_tape" (defArgs s_law_tape) (defBody s_law_tape) (defScope s_law_tape) .none kV5 dc5 pm5 an5 cd5 ct5), sl5⟩)
    (c5 : PySem.W.codeIn K cd5 "_law_tape" = true)
    (k5 : PySem.W.keepIn K (.ref f5) = true)
    (a6 : PySem.W.nsIn K mainGlobals "_law_load" = some (some (.ref f6)))
    (l6 : K.lookup f6 = some ⟨oc6, od6, .func (PySem.W.fnOf "_law_load" "_law_load" (defArgs s_law_load) (defBody s_law_load) (defScope s_law_load) .none kV6 dc6 pm6 an6 cd6 ct6), sl6⟩)
    (c6 : PySem.W.codeIn K cd6 "_law_load" = true)
    (k6 : PySem.W.keepIn K (.ref f6) = true)
    (a7 : PySem.W.nsIn K mainGlobals "_law_draw" = some (some (.ref f7)))
    (l7 : K.lookup f7 = some ⟨oc7, od7, .func (PySem.W.fnOf "_law_draw" "_law_draw" (defArgs s_law_draw) (defBody s_law_draw) (defScope s_law_draw) .none kV7 dc7 pm7 an7 cd7 ct7), sl7⟩)
    (c7 : PySem.W.codeIn K cd7 "_law_draw" = true)
    (k7 : PySem.W.keepIn K (.ref f7) = true)
    (a8 : PySem.W.nsIn K mainGlobals "_law_same" = some (some (.ref f8)))
    (l8 : K.lookup f8 = some ⟨oc8, od8, .func (PySem.W.fnOf "_law_same" "_law_same" (defArgs s_law_same) (defBody s_law_same) (defScope s_law_same) .none kV8 dc8 pm8 an8 cd8 ct8), sl8⟩)
    (c8 : PySem.W.codeIn K cd8 "_law_same" = true)
    (k8 : PySem.W.keepIn K (.ref f8) = true)
    (a9 : PySem.W.nsIn K mainGlobals "_law_shuffled" = some (some (.ref f9)))
    (l9 : K.lookup f9 = some ⟨oc9, od9, .func (PySem.W.fnOf "_law_shuffled" "_law_shuffled" (defArgs s_law_shuffled) (defBody s_law_shuffled) (defScope s_law_shuffled) .none kV9 dc9 pm9 an9 cd9 ct9), sl9⟩)
    (c9 : PySem.W.codeIn K cd9 "_law_shuffled" = true)
    (k9 : PySem.W.keepIn K (.ref f9) = true)
    (a10 : PySem.W.nsIn K mainGlobals "_law_closed" = some (some (.ref f10)))
    (l10 : K.lookup f10 = some ⟨oc10, od10, .func (PySem.W.fnOf "_law_closed" "_law_closed" (defArgs s_law_closed) (defBody s_law_closed) (defScope s_law_closed) .none kV10 dc10 pm10 an10 cd10 ct10), sl10⟩)
    (c10 : PySem.W.codeIn K cd10 "_law_closed" = true)
    (k10 : PySem.W.keepIn K (.ref f10) = true)
    (a11 : PySem.W.nsIn K mainGlobals "_law_drawn" = some (some (.ref f11)))
    (l11 : K.lookup f11 = some ⟨oc11, od11, .func (PySem.W.fnOf "_law_drawn" "_law_drawn" (defArgs s_law_drawn) (defBody s_law_drawn) (defScope s_law_drawn) .none kV11 dc11 pm11 an11 cd11 ct11), sl11⟩)
    (c11 : PySem.W.codeIn K cd11 "_law_drawn" = true)
    (k11 : PySem.W.keepIn K (.ref f11) = true)
    (a12 : PySem.W.nsIn K mainGlobals "_law_told" = some (some (.ref f12)))
    (l12 : K.lookup f12 = some ⟨oc12, od12, .func (PySem.W.fnOf "_law_told" "_law_told" (defArgs s_law_told) (defBody s_law_told) (defScope s_law_told) .none kV12 dc12 pm12 an12 cd12 ct12), sl12⟩)
    (c12 : PySem.W.codeIn K cd12 "_law_told" = true)
    (k12 : PySem.W.keepIn K (.ref f12) = true)
    (a13 : PySem.W.nsIn K mainGlobals "_law_fits" = some (some (.ref f13)))
    (l13 : K.lookup f13 = some ⟨oc13, od13, .func (PySem.W.fnOf "_law_fits" "_law_fits" (defArgs s_law_fits) (defBody s_law_fits) (defScope s_law_fits) .none kV13 dc13 pm13 an13 cd13 ct13), sl13⟩)
    (c13 : PySem.W.codeIn K cd13 "_law_fits" = true)
    (k13 : PySem.W.keepIn K (.ref f13) = true)
    (a14 : PySem.W.nsIn K mainGlobals "_law_map" = some (some (.ref f14)))
    (l14 : K.lookup f14 = some ⟨oc14, od14, .func (PySem.W.fnOf "_law_map" "_law_map" (defArgs s_law_map) (defBody s_law_map) (defScope s_law_map) .none kV14 dc14 pm14 an14 cd14 ct14), sl14⟩)
    (c14 : PySem.W.codeIn K cd14 "_law_map" = true)
    (k14 : PySem.W.keepIn K (.ref f14) = true)
    (a15 : PySem.W.nsIn K mainGlobals "_law_named" = some (some (.ref f15)))
    (l15 : K.lookup f15 = some ⟨oc15, od15, .func (PySem.W.fnOf "_law_named" "_law_named" (defArgs s_law_named) (defBody s_law_named) (defScope s_law_named) .none kV15 dc15 pm15 an15 cd15 ct15), sl15⟩)
    (c15 : PySem.W.codeIn K cd15 "_law_named" = true)
    (k15 : PySem.W.keepIn K (.ref f15) = true)
    (a16 : PySem.W.nsIn K mainGlobals "_law_covers" = some (some (.ref f16)))
    (l16 : K.lookup f16 = some ⟨oc16, od16, .func (PySem.W.fnOf "_law_covers" "_law_covers" (defArgs s_law_covers) (defBody s_law_covers) (defScope s_law_covers) .none kV16 dc16 pm16 an16 cd16 ct16), sl16⟩)
    (c16 : PySem.W.codeIn K cd16 "_law_covers" = true)
    (k16 : PySem.W.keepIn K (.ref f16) = true)
    (a17 : PySem.W.nsIn K mainGlobals "_law_signs" = some (some (.ref f17)))
    (l17 : K.lookup f17 = some ⟨oc17, od17, .func (PySem.W.fnOf "_law_signs" "_law_signs" (defArgs s_law_signs) (defBody s_law_signs) (defScope s_law_signs) .none kV17 dc17 pm17 an17 cd17 ct17), sl17⟩)
    (c17 : PySem.W.codeIn K cd17 "_law_signs" = true)
    (k17 : PySem.W.keepIn K (.ref f17) = true)
    (a18 : PySem.W.nsIn K mainGlobals "_law_number" = some (some (.ref f18)))
    (l18 : K.lookup f18 = some ⟨oc18, od18, .func (PySem.W.fnOf "_law_number" "_law_number" (defArgs s_law_number) (defBody s_law_number) (defScope s_law_number) .none kV18 dc18 pm18 an18 cd18 ct18), sl18⟩)
    (c18 : PySem.W.codeIn K cd18 "_law_number" = true)
    (k18 : PySem.W.keepIn K (.ref f18) = true)
    (a19 : PySem.W.nsIn K mainGlobals "_law_walked" = some (some (.ref f19)))
    (l19 : K.lookup f19 = some ⟨oc19, od19, .func (PySem.W.fnOf "_law_walked" "_law_walked" (defArgs s_law_walked) (defBody s_law_walked) (defScope s_law_walked) .none kV19 dc19 pm19 an19 cd19 ct19), sl19⟩)
    (c19 : PySem.W.codeIn K cd19 "_law_walked" = true)
    (k19 : PySem.W.keepIn K (.ref f19) = true)
    (a20 : PySem.W.nsIn K mainGlobals "law" = some (some (.ref f20)))
    (l20 : K.lookup f20 = some ⟨oc20, od20, .func (PySem.W.fnOf "law" "law" (defArgs s_law) (defBody s_law) (defScope s_law) .none kV20 dc20 pm20 an20 cd20 ct20), sl20⟩)
    (c20 : PySem.W.codeIn K cd20 "law" = true)
    (k20 : PySem.W.keepIn K (.ref f20) = true)
    (z_abs : PySem.W.nsIn K mainGlobals "abs" = some none)
    (z_bool : PySem.W.nsIn K mainGlobals "bool" = some none)
    (z_enumerate : PySem.W.nsIn K mainGlobals "enumerate" = some none)
    (z_int : PySem.W.nsIn K mainGlobals "int" = some none)
    (z_isinstance : PySem.W.nsIn K mainGlobals "isinstance" = some none)
    (z_len : PySem.W.nsIn K mainGlobals "len" = some none)
    (z_list : PySem.W.nsIn K mainGlobals "list" = some none)
    (z_range : PySem.W.nsIn K mainGlobals "range" = some none)
    (z_sorted : PySem.W.nsIn K mainGlobals "sorted" = some none)
    (z_sum : PySem.W.nsIn K mainGlobals "sum" = some none)
    (z_tuple : PySem.W.nsIn K mainGlobals "tuple" = some none) :
    ∃ T : Txt K mg, T.a_law = fa := by
  have e := hfa.symm.trans (PySem.W.mg_of X G a20)
  cases e
  exact ⟨⟨f0,
    _,
    fun_mk (st := s_fixed_points) l0 c0 k0,
    PySem.W.mg_of X G a0,
    f1,
    _,
    fun_mk (st := s_induced) l1 c1 k1,
    PySem.W.mg_of X G a1,
    f2,
    _,
    fun_mk (st := s_chain_counts) l2 c2 k2,
    PySem.W.mg_of X G a2,
    f3,
    _,
    fun_mk (st := s_euler) l3 c3 k3,
    PySem.W.mg_of X G a3,
    f4,
    _,
    fun_mk (st := s_lefschetz) l4 c4 k4,
    PySem.W.mg_of X G a4,
    f5,
    _,
    fun_mk (st := s_law_tape) l5 c5 k5,
    PySem.W.mg_of X G a5,
    f6,
    _,
    fun_mk (st := s_law_load) l6 c6 k6,
    PySem.W.mg_of X G a6,
    f7,
    _,
    fun_mk (st := s_law_draw) l7 c7 k7,
    PySem.W.mg_of X G a7,
    f8,
    _,
    fun_mk (st := s_law_same) l8 c8 k8,
    PySem.W.mg_of X G a8,
    f9,
    _,
    fun_mk (st := s_law_shuffled) l9 c9 k9,
    PySem.W.mg_of X G a9,
    f10,
    _,
    fun_mk (st := s_law_closed) l10 c10 k10,
    PySem.W.mg_of X G a10,
    f11,
    _,
    fun_mk (st := s_law_drawn) l11 c11 k11,
    PySem.W.mg_of X G a11,
    f12,
    _,
    fun_mk (st := s_law_told) l12 c12 k12,
    PySem.W.mg_of X G a12,
    f13,
    _,
    fun_mk (st := s_law_fits) l13 c13 k13,
    PySem.W.mg_of X G a13,
    f14,
    _,
    fun_mk (st := s_law_map) l14 c14 k14,
    PySem.W.mg_of X G a14,
    f15,
    _,
    fun_mk (st := s_law_named) l15 c15 k15,
    PySem.W.mg_of X G a15,
    f16,
    _,
    fun_mk (st := s_law_covers) l16 c16 k16,
    PySem.W.mg_of X G a16,
    f17,
    _,
    fun_mk (st := s_law_signs) l17 c17 k17,
    PySem.W.mg_of X G a17,
    f18,
    _,
    fun_mk (st := s_law_number) l18 c18 k18,
    PySem.W.mg_of X G a18,
    f19,
    _,
    fun_mk (st := s_law_walked) l19 c19 k19,
    PySem.W.mg_of X G a19,
    fa,
    _,
    fun_mk (st := s_law) l20 c20 k20,
    PySem.W.mg_of X G a20,
    PySem.W.mg_none_of X G z_abs,
    PySem.W.mg_none_of X G z_bool,
    PySem.W.mg_none_of X G z_enumerate,
    PySem.W.mg_none_of X G z_int,
    PySem.W.mg_none_of X G z_isinstance,
    PySem.W.mg_none_of X G z_len,
    PySem.W.mg_none_of X G z_list,
    PySem.W.mg_none_of X G z_range,
    PySem.W.mg_none_of X G z_sorted,
    PySem.W.mg_none_of X G z_sum,
    PySem.W.mg_none_of X G z_tuple⟩, rfl⟩
abbrev Law : Prop := ∀ ns : List Int, ns.length ≤ 63 → ∃ h, f_law [.frz (ns.map MV.int)] [] = ok (.bl true) h
theorem all_end {l : PySem.W.OpenLaw} {w : World} {K : PySem.W.Frag} {mg : Str → Option Value} {fa : Addr} (L : Law) (hT : ∃ T : Txt K mg, T.a_law = fa) :
    ∃ fd : FuncData, (∀ (s : Shared) (v : Value), BindsTo s fd ⟨[v], []⟩ [("script", v)]) ∧ ∀ base : Heap, K.In base → base.Ns mainGlobals mg → FnOk l.prog w K mg base CX0 10 fa fd ["script"] (spLaw K) := by
  obtain ⟨T, e⟩ := hT
  subst e
  obtain ⟨oc, od, kV, doc, pm, an, cdv, ct, osl, e, lk, hcd⟩ := T.F_law.ex
  refine ⟨T.d_law, fun s v => ?_, fun base _ _ => (ok_law T).imp (law_start L)⟩
  rw [e]
  exact .of_eq rfl
end Mi.k59
open PySem PySem.W PyProof.Rows
set_option maxRecDepth 100000 in
set_option maxHeartbeats 0 in
theorem PySem.Challenge.cw_strikecore_k59_whole_lefschetz_of_led_ma_holds : PySem.Challenge.rw_strikecore_k59_whole_lefschetz_of_led_ma.Holds := by
  w_on; o_law; k_head; (case hw => w_witness2)
  k_fill
  refine L2.walk_ofK (l := PySem.Challenge.rw_strikecore_k59_whole_lefschetz_of_led_ma) (n := 63) (k := 10) (x := "script") (CX := L2.CX0) (sp := Mi.spLaw) rfl (by decide) rfl ⟨rfl, by decide, by decide⟩ (fun w h Y => PySem.W.kIn_of Y) ?F (fun K H a ns hl _ hS => ⟨a, ns, rfl, hS, hl, fun _ => rfl⟩) (fun _ _ _ _ h => h)
  case F =>
    intro w mg fa h KX G hmg
    refine Mi.k59.all_end Mi.k59.main ?T
    refine' Mi.k59.txt_mk KX G hmg ?a0 ?l0 ?c0 ?k0 ?a1 ?l1 ?c1 ?k1 ?a2 ?l2 ?c2 ?k2 ?a3 ?l3 ?c3 ?k3 ?a4 ?l4 ?c4 ?k4 ?a5 ?l5 ?c5 ?k5 ?a6 ?l6 ?c6 ?k6 ?a7 ?l7 ?c7 ?k7 ?a8 ?l8 ?c8 ?k8 ?a9 ?l9 ?c9 ?k9 ?a10 ?l10 ?c10 ?k10 ?a11 ?l11 ?c11 ?k11 ?a12 ?l12 ?c12 ?k12 ?a13 ?l13 ?c13 ?k13 ?a14 ?l14 ?c14 ?k14 ?a15 ?l15 ?c15 ?k15 ?a16 ?l16 ?c16 ?k16 ?a17 ?l17 ?c17 ?k17 ?a18 ?l18 ?c18 ?k18 ?a19 ?l19 ?c19 ?k19 ?a20 ?l20 ?c20 ?k20 ?z_abs ?z_bool ?z_enumerate ?z_int ?z_isinstance ?z_len ?z_list ?z_range ?z_sorted ?z_sum ?z_tuple
    (case a0 => k_is)
    (case l0 => k_is)
    (case c0 => k_is)
    (case k0 => k_is)
    (case a1 => k_is)
    (case l1 => k_is)
    (case c1 => k_is)
    (case k1 => k_is)
    (case a2 => k_is)
    (case l2 => k_is)
    (case c2 => k_is)
    (case k2 => k_is)
    (case a3 => k_is)
    (case l3 => k_is)
    (case c3 => k_is)
    (case k3 => k_is)
    (case a4 => k_is)
    (case l4 => k_is)
    (case c4 => k_is)
    (case k4 => k_is)
    (case a5 => k_is)
    (case l5 => k_is)
    (case c5 => k_is)
    (case k5 => k_is)
    (case a6 => k_is)
    (case l6 => k_is)
    (case c6 => k_is)
    (case k6 => k_is)
    (case a7 => k_is)
    (case l7 => k_is)
    (case c7 => k_is)
    (case k7 => k_is)
    (case a8 => k_is)
    (case l8 => k_is)
    (case c8 => k_is)
    (case k8 => k_is)
    (case a9 => k_is)
    (case l9 => k_is)
    (case c9 => k_is)
    (case k9 => k_is)
    (case a10 => k_is)
    (case l10 => k_is)
    (case c10 => k_is)
    (case k10 => k_is)
    (case a11 => k_is)
    (case l11 => k_is)
    (case c11 => k_is)
    (case k11 => k_is)
    (case a12 => k_is)
    (case l12 => k_is)
    (case c12 => k_is)
    (case k12 => k_is)
    (case a13 => k_is)
    (case l13 => k_is)
    (case c13 => k_is)
    (case k13 => k_is)
    (case a14 => k_is)
    (case l14 => k_is)
    (case c14 => k_is)
    (case k14 => k_is)
    (case a15 => k_is)
    (case l15 => k_is)
    (case c15 => k_is)
    (case k15 => k_is)
    (case a16 => k_is)
    (case l16 => k_is)
    (case c16 => k_is)
    (case k16 => k_is)
    (case a17 => k_is)
    (case l17 => k_is)
    (case c17 => k_is)
    (case k17 => k_is)
    (case a18 => k_is)
    (case l18 => k_is)
    (case c18 => k_is)
    (case k18 => k_is)
    (case a19 => k_is)
    (case l19 => k_is)
    (case c19 => k_is)
    (case k19 => k_is)
    (case a20 => k_is)
    (case l20 => k_is)
    (case c20 => k_is)
    (case k20 => k_is)
    (case z_abs => k_is)
    (case z_bool => k_is)
    (case z_enumerate => k_is)
    (case z_int => k_is)
    (case z_isinstance => k_is)
    (case z_len => k_is)
    (case z_list => k_is)
    (case z_range => k_is)
    (case z_sorted => k_is)
    (case z_sum => k_is)
    (case z_tuple => k_is)
