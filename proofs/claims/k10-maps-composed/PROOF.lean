import PyProof.Rows.All
import Wide.All
import OpenK.AllK
import Wide.FinOn
import HandS.ForMost
import HandS.IsInst
import HandS.Style
import HandS.Wide
import HandS.TupAny
import HandS.Flow
import HandS.Iter
import HandS.Defaults
import HandS.SortRule
import HandS.Conv
import HandS.SortInts
import KE.GoesEnum
import HandS.DictComp
import HandS.WideBits
import HandS.TryOnly
import HandS.Deep
import HandS.More
import HandS.WordsExc
import HandS.ExcField
import KE.KExcIs
import KE.KExcSuper
import HandS.ExcInit
import KE.KExcLine
import HandS.SetFor
import PyProof.AutoSeq1
import KE.KRevSl
import HandS.TupMul
import KE.GoesMore
import HandS.Zip
import HandS.List
import KE.KDictDisplayH
import HandS.Rev
import KE.KSortTupG
import PySem.Challenge.RW_strikecore_k10_maps_composed_and_compare
set_option Elab.async false
set_option linter.all false
set_option maxRecDepth 100000
set_option maxHeartbeats 2000000
namespace Mi
open PySem L2
inductive MV where
  | non | bl (b : Bool) | int (i : Int) | str (x : Str) | tup (xs : List MV) | ktp (xs : List MV) | fls (xs : List MV) | frz (xs : List MV) | ref (l : Nat) | exc (a : Addr) (d : Option Addr) (fns : List Str) (xs : List MV) | fdt (ks : List (List Key)) (xs : List MV)
inductive MO where
  | dead | lst (xs : List MV) | dK (kvs : List (Key × MV)) | dT (kvs : List (List Key × MV)) | ins (cn : Str) (fs : List (Str × MV))
abbrev MH := List MO
abbrev MS := List (Option MV)
structure MX where
  cls : Str
  flds : List (Str × MV)
inductive Out (α : Type) where
  | ok (a : α) (h : MH) | ex (e : MX) (h : MH)
abbrev Res (α : Type) := Option (Out α)
abbrev MM (α : Type) := MS → MH → Res α
abbrev ME := MM MV
@[simp ↓] def Res.bnd {α β : Type} (r : Res α) (k : α → MH → Res β) : Res β := match r with
  | none => none
  | some (.ok a h) => k a h
  | some (.ex e h) => some (.ex e h)
inductive OutS where
  | nx (s : MS) (h : MH) | ret (x : MV) (h : MH) | brk (s : MS) (h : MH) | cnt (s : MS) (h : MH) | ex (e : MX) (h : MH)
abbrev MT := MS → MH → Option OutS
abbrev Phi := Nat → Option Addr
structure Wd where
  f : Phi
  n : Nat
  H : Hp
  hid : Addr → Prop
def Stab (W : Wd) (p : Addr) : Prop := (∀ l, W.f l ≠ some p) ∧ ¬ W.hid p
mutual
inductive RV (K : PySem.W.Frag) (W : Wd) : MV → V → Prop
  | non : RV K W .non .non
  | bl (b : Bool) : RV K W (.bl b) (.bl b)
  | int (i : Int) : RV K W (.int i) (.int i)
  | str (x : Str) : RV K W (.str x) (.str x)
  | ref {l : Nat} {a : Addr} (lt : l < W.n) (e : ∀ b, W.f l = some b → b = a) : RV K W (.ref l) (.ref a)
  | tup {p : Addr} {xs : List MV} {vs : List V} (s : Stab W p) (e : W.H p = some (.tup vs)) (r : RVs K W xs vs) : RV K W (.tup xs) (.ref p)
  | tupK {p : Addr} {xs : List MV} {vs : List V} (e : ∀ H, SqT K H p vs) (r : RVs K W xs vs) : RV K W (.ktp xs) (.ref p)
  | fls {p : Addr} {xs : List MV} {vs : List V} (s : Stab W p) (e : W.H p = some (.lst vs)) (r : RVs K W xs vs) : RV K W (.fls xs) (.ref p)
  | frz {p : Addr} {xs : List MV} {vs : List V} (s : Stab W p) (e : Rd W.H p (.lst vs)) (r : RVs K W xs vs) : RV K W (.frz xs) (.ref p)
  | frzK {p : Addr} {xs : List MV} {vs : List V} (e : ∀ H, SqL K H p vs) (r : RVs K W xs vs) : RV K W (.frz xs) (.ref p)
  | exc0 {a : Addr} {fns : List Str} : RV K W (.exc a none fns []) (.ref a)
  | excD {a p : Addr} {fns : List Str} {xs : List MV} {vs : List V} (s : Stab W p) (e : W.H p = some (.xd (fns.zip vs))) (r : RVs K W xs vs) : RV K W (.exc a (some p) fns xs) (.ref a)
  | fdt {p : Addr} {o : Obj} {ks : List (List Key)} {xs : List MV} {vs : List V} (s : Stab W p) (e : W.H p = some (.frz o (.dT (ks.zip vs)))) (r : RVs K W xs vs) : RV K W (.fdt ks xs) (.ref p)
inductive RVs (K : PySem.W.Frag) (W : Wd) : List MV → List V → Prop
  | nil : RVs K W [] []
  | cons {x : MV} {v : V} {xs : List MV} {vs : List V} (r : RV K W x v) (t : RVs K W xs vs) : RVs K W (x :: xs) (v :: vs)
end
inductive RKV (K : PySem.W.Frag) (W : Wd) {κ : Type} : List (κ × MV) → List (κ × V) → Prop
  | nil : RKV K W [] []
  | cons {k : κ} {x : MV} {v : V} {xs : List (κ × MV)} {vs : List (κ × V)} (r : RV K W x v) (t : RKV K W xs vs) : RKV K W ((k, x) :: xs) ((k, v) :: vs)
def RO (K : PySem.W.Frag) (W : Wd) : MO → Addr → Prop
  | .dead, _ => False
  | .lst xs, a => ∃ vs, W.H a = some (.lst vs) ∧ RVs K W xs vs
  | .dK kvs, a => ∃ kws, W.H a = some (.dK kws) ∧ RKV K W kvs kws
  | .dT kvs, a => ∃ kws, W.H a = some (.dT kws) ∧ RKV K W kvs kws
  | .ins cn fs, a => ∃ C dx kws, PySem.W.nsIn K mainGlobals cn = some (some (.ref C)) ∧ W.H a = some (.ins C dx kws) ∧ RKV K W fs kws
structure Sim (K : PySem.W.Frag) (W : Wd) (h : MH) : Prop where
  n : W.n = h.length
  lt : ∀ l a, W.f l = some a → l < h.length
  inj : ∀ i j a, W.f i = some a → W.f j = some a → i = j
  obj : ∀ l a, W.f l = some a → ∃ o, h[l]? = some o ∧ RO K W o a
  live : ∀ l o, h[l]? = some o → o ≠ .dead → ∃ a, W.f l = some a
  nhid : ∀ l a, W.f l = some a → ¬ W.hid a
  hids : ∀ p, W.hid p → ∃ u, W.H p = some u ∧ ∀ vs, u ≠ .tup vs
structure Ext (W W' : Wd) : Prop where
  le : W.n ≤ W'.n
  agree : ∀ l, l < W.n → W'.f l = W.f l ∨ W'.f l = none
  frame : ∀ p o, Stab W p → W.H p = some o → W'.H p = some o ∧ Stab W' p
  hidf : ∀ p o, W.hid p → W.H p = some o → W'.H p = some o ∧ W'.hid p
theorem Ext.refl (W : Wd) : Ext W W := ⟨Nat.le_refl _, fun _ _ => .inl rfl, fun _ _ s e => ⟨e, s⟩, fun _ _ s e => ⟨e, s⟩⟩
theorem Ext.trans {W W1 W2 : Wd} (a : Ext W W1) (b : Ext W1 W2) : Ext W W2 where
  le := Nat.le_trans a.le b.le
  agree := fun l hl => by
    rcases b.agree l (Nat.lt_of_lt_of_le hl a.le) with e | e
    · rw [e]
      exact a.agree l hl
    · exact .inr e
  frame := fun p o s e => by
    obtain ⟨e1, s1⟩ := a.frame p o s e
    exact b.frame p o s1 e1
  hidf := fun p o s e => by
    obtain ⟨e1, s1⟩ := a.hidf p o s e
    exact b.hidf p o s1 e1
theorem Ext.rd {W W' : Wd} (x : Ext W W') {p : Addr} {o : HO} (s : Stab W p) (e : Rd W.H p o) : Rd W'.H p o ∧ Stab W' p := by
  rcases e with e | ⟨u, e⟩
  · exact ⟨.inl (x.frame p _ s e).1, (x.frame p _ s e).2⟩
  · exact ⟨.inr ⟨u, (x.frame p _ s e).1⟩, (x.frame p _ s e).2⟩
section
variable {K : PySem.W.Frag} {W W' : Wd}
mutual
theorem RV.mono (x : Ext W W') : ∀ {m : MV} {v : V}, RV K W m v → RV K W' m v
  | _, _, .non => .non
  | _, _, .bl b => .bl b
  | _, _, .int i => .int i
  | _, _, .str s => .str s
  | _, _, .ref lt e => .ref (Nat.lt_of_lt_of_le lt x.le) fun b hb => by
    rcases x.agree _ lt with q | q
    · exact e b (q ▸ hb)
    · rw [q] at hb
      cases hb
  | _, _, .tup s e r => .tup (x.frame _ _ s e).2 (x.frame _ _ s e).1 (RVs.mono x r)
  | _, _, .tupK e r => .tupK e (RVs.mono x r)
  | _, _, .fls s e r => .fls (x.frame _ _ s e).2 (x.frame _ _ s e).1 (RVs.mono x r)
  | _, _, .frz s e r => .frz (x.rd s e).2 (x.rd s e).1 (RVs.mono x r)
  | _, _, .frzK e r => .frzK e (RVs.mono x r)
  | _, _, .exc0 => .exc0
  | _, _, .excD s e r => .excD (x.frame _ _ s e).2 (x.frame _ _ s e).1 (RVs.mono x r)
  | _, _, .fdt s e r => .fdt (x.frame _ _ s e).2 (x.frame _ _ s e).1 (RVs.mono x r)
theorem RVs.mono (x : Ext W W') : ∀ {ms : List MV} {vs : List V}, RVs K W ms vs → RVs K W' ms vs
  | _, _, .nil => .nil
  | _, _, .cons r t => .cons (RV.mono x r) (RVs.mono x t)
end
theorem RKV.mono {κ : Type} (x : Ext W W') : ∀ {ms : List (κ × MV)} {vs : List (κ × V)}, RKV K W ms vs → RKV K W' ms vs
  | _, _, .nil => .nil
  | _, _, .cons r t => .cons (r.mono x) (RKV.mono x t)
theorem RVs.length : ∀ {xs : List MV} {vs : List V}, RVs K W xs vs → xs.length = vs.length
  | _, _, .nil => rfl
  | _, _, .cons _ t => by rw [List.length_cons, List.length_cons, RVs.length t]
theorem RVs.get : ∀ {xs : List MV} {vs : List V} {i : Nat} {x : MV}, RVs K W xs vs → xs[i]? = some x → ∃ v, vs[i]? = some v ∧ RV K W x v
  | _, _, _, _, .nil, e => by simp at e
  | _, _, 0, _, .cons r _, e => by
    simp at e
    subst e
    exact ⟨_, rfl, r⟩
  | _, _, i + 1, _, .cons _ t, e => by
    obtain ⟨v, a, b⟩ := RVs.get (i := i) t (by simpa using e)
    exact ⟨v, by simpa using a, b⟩
theorem RVs.append : ∀ {xs ys : List MV} {vs ws : List V}, RVs K W xs vs → RVs K W ys ws → RVs K W (xs ++ ys) (vs ++ ws)
  | _, _, _, _, .nil, s => s
  | _, _, _, _, .cons r t, s => .cons r (RVs.append t s)
theorem RVs.one {x : MV} {v : V} (r : RV K W x v) : RVs K W [x] [v] := .cons r .nil
theorem RVs.take : ∀ {xs : List MV} {vs : List V} (n : Nat), RVs K W xs vs → RVs K W (xs.take n) (vs.take n)
  | _, _, 0, _ => .nil
  | _, _, _ + 1, .nil => .nil
  | _, _, n + 1, .cons r t => .cons r (RVs.take n t)
theorem RVs.drop : ∀ {xs : List MV} {vs : List V} (n : Nat), RVs K W xs vs → RVs K W (xs.drop n) (vs.drop n)
  | _, _, 0, r => r
  | _, _, _ + 1, .nil => .nil
  | _, _, n + 1, .cons _ t => RVs.drop n t
theorem RVs.set {x : MV} {v : V} (r : RV K W x v) : ∀ {xs : List MV} {vs : List V} (i : Nat), RVs K W xs vs → RVs K W (xs.set i x) (vs.set i v)
  | _, _, _, .nil => .nil
  | _, _, 0, .cons _ t => .cons r t
  | _, _, i + 1, .cons q t => .cons q (RVs.set r i t)
theorem RVs.eraseIdx : ∀ {xs : List MV} {vs : List V} (i : Nat), RVs K W xs vs → RVs K W (xs.eraseIdx i) (vs.eraseIdx i)
  | _, _, _, .nil => .nil
  | _, _, 0, .cons _ t => t
  | _, _, i + 1, .cons q t => .cons q (RVs.eraseIdx i t)
theorem RVs.reverse : ∀ {xs : List MV} {vs : List V}, RVs K W xs vs → RVs K W xs.reverse vs.reverse
  | _, _, .nil => .nil
  | _, _, .cons r t => by
    rw [List.reverse_cons, List.reverse_cons]
    exact (RVs.reverse t).append (.one r)
theorem RVs.nil_iff {xs : List MV} {vs : List V} (r : RVs K W xs vs) : xs.isEmpty = vs.isEmpty := by
  cases r <;> rfl
theorem RO.mono {o : MO} {a : Addr} (x : Ext W W') (r : RO K W o a) (e : W'.H a = W.H a) : RO K W' o a := by
  cases o with
  | dead => exact r
  | lst xs =>
    obtain ⟨vs, q, t⟩ := r
    exact ⟨vs, e.trans q, t.mono x⟩
  | dK kvs =>
    obtain ⟨vs, q, t⟩ := r
    exact ⟨vs, e.trans q, t.mono x⟩
  | dT kvs =>
    obtain ⟨vs, q, t⟩ := r
    exact ⟨vs, e.trans q, t.mono x⟩
  | ins cn kvs =>
    obtain ⟨C, dx, vs, hC, q, t⟩ := r
    exact ⟨C, dx, vs, hC, e.trans q, t.mono x⟩
theorem RO.has {o : MO} {a : Addr} (r : RO K W o a) : ∃ u, W.H a = some u := by
  cases o with
  | dead => exact r.elim
  | lst xs =>
    obtain ⟨vs, q, _⟩ := r
    exact ⟨_, q⟩
  | dK kvs =>
    obtain ⟨vs, q, _⟩ := r
    exact ⟨_, q⟩
  | dT kvs =>
    obtain ⟨vs, q, _⟩ := r
    exact ⟨_, q⟩
  | ins cn kvs =>
    obtain ⟨C, dx, vs, hC, q, _⟩ := r
    exact ⟨_, q⟩
theorem Sim.has {h : MH} (S : Sim K W h) {l : Nat} {a : Addr} (e : W.f l = some a) : ∃ u, W.H a = some u := by
  obtain ⟨o, _, r⟩ := S.obj l a e
  exact r.has
theorem Sim.fresh {h : MH} (S : Sim K W h) {p : Addr} (hp : W.H p = none) : Stab W p := ⟨fun l e => (by
  obtain ⟨u, q⟩ := S.has e
  rw [hp] at q
  cases q), fun hh => by
  obtain ⟨u, e, _⟩ := S.hids p hh
  rw [hp] at e
  cases e⟩
def Wd.put (W : Wd) (p : Addr) (o : HO) : Wd := ⟨W.f, W.n, upd W.H p o, W.hid⟩
theorem Ext.put {h : MH} (S : Sim K W h) {p : Addr} {o : HO} (hp : W.H p = none) : Ext W (W.put p o) := ⟨Nat.le_refl _, fun _ _ => .inl rfl, fun q u s e => ⟨by
  show upd W.H p o q = some u
  rw [upd_ne (ne_of_none e hp)]
  exact e, s⟩, fun q u s e => ⟨by
  show upd W.H p o q = some u
  rw [upd_ne (ne_of_none e hp)]
  exact e, s⟩⟩
theorem Sim.put {h : MH} (S : Sim K W h) {p : Addr} {o : HO} (hp : W.H p = none) : Sim K (W.put p o) h where
  n := S.n
  lt := S.lt
  inj := S.inj
  obj := fun l a e => by
    obtain ⟨u, e1, r⟩ := S.obj l a e
    refine ⟨u, e1, r.mono (Ext.put S hp) ?_⟩
    show upd W.H p o a = W.H a
    obtain ⟨u2, q⟩ := r.has
    rw [upd_ne (ne_of_none q hp)]
  live := S.live
  nhid := S.nhid
  hids := fun q hq => by
    obtain ⟨u, e, n⟩ := S.hids q hq
    refine ⟨u, ?_, n⟩
    show upd W.H p o q = some u
    rw [upd_ne (ne_of_none e hp)]
    exact e
def Wd.add (W : Wd) (p : Addr) (o : HO) : Wd := ⟨fun l => if l = W.n then some p else W.f l, W.n + 1, upd W.H p o, W.hid⟩
theorem Ext.add {h : MH} (S : Sim K W h) {p : Addr} {o : HO} (hp : W.H p = none) : Ext W (W.add p o) where
  le := Nat.le_succ _
  agree := fun l hl => .inl (if_neg (Nat.ne_of_lt hl))
  frame := fun q u s e => by
    have hq : q ≠ p := ne_of_none e hp
    refine ⟨?_, fun l z => ?_, s.2⟩
    · show upd W.H p o q = some u
      rw [upd_ne hq]
      exact e
    · have z' : (if l = W.n then some p else W.f l) = some q := z
      by_cases hl : l = W.n
      · rw [if_pos hl] at z'
        exact hq (Option.some.inj z').symm
      · rw [if_neg hl] at z'
        exact s.1 l z'
  hidf := fun q u s e => ⟨by
    show upd W.H p o q = some u
    rw [upd_ne (ne_of_none e hp)]
    exact e, s⟩
theorem Sim.add {h : MH} {m : MO} (S : Sim K W h) {p : Addr} {o : HO} (hp : W.H p = none) (hr : RO K (W.add p o) m p) : Sim K (W.add p o) (h ++ [m]) where
  n := by
    show W.n + 1 = _
    rw [List.length_append, S.n]
    rfl
  lt := fun l a e => by
    have e' : (if l = W.n then some p else W.f l) = some a := e
    rw [List.length_append]
    show l < h.length + 1
    by_cases hl : l = W.n
    · rw [hl, S.n]
      exact Nat.lt_succ_self _
    · rw [if_neg hl] at e'
      exact Nat.lt_succ_of_lt (S.lt l a e')
  inj := fun i j a ei ej => by
    have ei' : (if i = W.n then some p else W.f i) = some a := ei
    have ej' : (if j = W.n then some p else W.f j) = some a := ej
    have no : ∀ k, W.f k = some p → False := fun k e => (S.fresh hp).1 k e
    by_cases hi : i = W.n
    · by_cases hj : j = W.n
      · rw [hi, hj]
      · rw [if_pos hi] at ei'
        rw [if_neg hj, ← ei'] at ej'
        exact (no j ej').elim
    · rw [if_neg hi] at ei'
      by_cases hj : j = W.n
      · rw [if_pos hj] at ej'
        rw [← ej'] at ei'
        exact (no i ei').elim
      · rw [if_neg hj] at ej'
        exact S.inj i j a ei' ej'
  obj := fun l a e => by
    have e' : (if l = W.n then some p else W.f l) = some a := e
    by_cases hl : l = W.n
    · rw [if_pos hl] at e'
      cases e'
      exact ⟨m, by rw [hl, S.n]; simp, hr⟩
    · rw [if_neg hl] at e'
      obtain ⟨u, e1, r⟩ := S.obj l a e'
      refine ⟨u, by rw [List.getElem?_append_left (S.lt l a e')]; exact e1, r.mono (Ext.add S hp) ?_⟩
      obtain ⟨u2, q⟩ := r.has
      show upd W.H p o a = W.H a
      rw [upd_ne (ne_of_none q hp)]
  live := fun l u e d => by
    by_cases hl : l = W.n
    · exact ⟨p, if_pos hl⟩
    · have hlt : l < h.length := by
        have := (List.getElem?_eq_some_iff.mp e).1
        rw [List.length_append] at this
        have t : l < h.length + 1 := this
        have := S.n
        omega
      rw [List.getElem?_append_left hlt] at e
      obtain ⟨a, ea⟩ := S.live l u e d
      exact ⟨a, (if_neg hl).trans ea⟩
  nhid := fun l a e => by
    have e' : (if l = W.n then some p else W.f l) = some a := e
    by_cases hl : l = W.n
    · rw [if_pos hl] at e'
      cases e'
      exact (S.fresh hp).2
    · rw [if_neg hl] at e'
      exact S.nhid l a e'
  hids := fun q hq => by
    obtain ⟨u, e, n⟩ := S.hids q hq
    refine ⟨u, ?_, n⟩
    show upd W.H p o q = some u
    rw [upd_ne (ne_of_none e hp)]
    exact e
def Wd.wr (W : Wd) (p : Addr) (o : HO) : Wd := ⟨W.f, W.n, upd W.H p o, W.hid⟩
theorem Ext.wr {h : MH} (S : Sim K W h) {l : Nat} {p : Addr} {o : HO} (e : W.f l = some p) : Ext W (W.wr p o) := ⟨Nat.le_refl _, fun _ _ => .inl rfl, fun q u s eq => ⟨by
  show upd W.H p o q = some u
  rw [upd_ne (fun z => s.1 l (by rw [z]; exact e))]
  exact eq, s⟩, fun q u s eq => ⟨by
  show upd W.H p o q = some u
  rw [upd_ne (fun z => S.nhid l p e (by rw [← z]; exact s))]
  exact eq, s⟩⟩
theorem Sim.wr {h : MH} {m : MO} (S : Sim K W h) {l : Nat} {p : Addr} {o : HO} (e : W.f l = some p) (hr : RO K (W.wr p o) m p) : Sim K (W.wr p o) (h.set l m) where
  n := by
    rw [List.length_set]
    exact S.n
  lt := fun j a ej => by
    rw [List.length_set]
    exact S.lt j a ej
  inj := S.inj
  obj := fun j a ej => by
    have hl := S.lt l p e
    by_cases hj : j = l
    · subst hj
      have ej' : W.f j = some a := ej
      rw [e] at ej'
      cases ej'
      exact ⟨m, List.getElem?_set_self hl, hr⟩
    · obtain ⟨u, e1, r⟩ := S.obj j a ej
      refine ⟨u, by rw [List.getElem?_set_ne (Ne.symm hj)]; exact e1, r.mono (Ext.wr S e) ?_⟩
      show upd W.H p o a = W.H a
      rw [upd_ne fun z => hj (S.inj j l p (by rw [← z]; exact ej) e)]
  live := fun j u ej d => by
    by_cases hj : j = l
    · exact ⟨p, by rw [hj]; exact e⟩
    · rw [List.getElem?_set_ne (Ne.symm hj)] at ej
      exact S.live j u ej d
  nhid := S.nhid
  hids := fun q hq => by
    obtain ⟨u, e1, n⟩ := S.hids q hq
    refine ⟨u, ?_, n⟩
    show upd W.H p o q = some u
    rw [upd_ne fun z => S.nhid l p e (by rw [← z]; exact hq)]
    exact e1
def Wd.kill (W : Wd) (l : Nat) : Wd := ⟨fun j => if j = l then none else W.f j, W.n, W.H, W.hid⟩
theorem Wd.kill_some {l j : Nat} {a : Addr} (e : (W.kill l).f j = some a) : j ≠ l ∧ W.f j = some a := by
  have e' : (if j = l then none else W.f j) = some a := e
  by_cases hj : j = l
  · rw [if_pos hj] at e'
    cases e'
  · rw [if_neg hj] at e'
    exact ⟨hj, e'⟩
theorem Ext.kill (W : Wd) (l : Nat) : Ext W (W.kill l) := ⟨Nat.le_refl _, fun j _ => by
  by_cases hj : j = l
  · exact .inr (if_pos hj)
  · exact .inl (if_neg hj), fun q u s eq => ⟨eq, fun j z => s.1 j (Wd.kill_some z).2, s.2⟩, fun q u s eq => ⟨eq, s⟩⟩
theorem Sim.kill {h : MH} (S : Sim K W h) (l : Nat) : Sim K (W.kill l) (h.set l .dead) where
  n := by
    rw [List.length_set]
    exact S.n
  lt := fun j a ej => by
    rw [List.length_set]
    exact S.lt j a (Wd.kill_some ej).2
  inj := fun i j a ei ej => S.inj i j a (Wd.kill_some ei).2 (Wd.kill_some ej).2
  obj := fun j a ej => by
    obtain ⟨hj, e1⟩ := Wd.kill_some ej
    obtain ⟨u, e2, r⟩ := S.obj j a e1
    exact ⟨u, by rw [List.getElem?_set_ne (Ne.symm hj)]; exact e2, r.mono (Ext.kill W l) rfl⟩
  live := fun j u ej d => by
    by_cases hj : j = l
    · subst hj
      have hlt : j < h.length := by
        have := (List.getElem?_eq_some_iff.mp ej).1
        rw [List.length_set] at this
        exact this
      rw [List.getElem?_set_self hlt] at ej
      exact absurd (Option.some.inj ej).symm d
    · rw [List.getElem?_set_ne (Ne.symm hj)] at ej
      obtain ⟨a, ea⟩ := S.live j u ej d
      exact ⟨a, (if_neg hj).trans ea⟩
  nhid := fun j a ej => S.nhid j a (Wd.kill_some ej).2
  hids := S.hids
def Wd.hide (W : Wd) (p : Addr) (o : HO) : Wd := ⟨W.f, W.n, upd W.H p o, fun q => q = p ∨ W.hid q⟩
theorem Ext.hide {h : MH} (S : Sim K W h) {p : Addr} {o : HO} (hp : W.H p = none) : Ext W (W.hide p o) := ⟨Nat.le_refl _, fun _ _ => .inl rfl, fun q u s e => ⟨by
  show upd W.H p o q = some u
  rw [upd_ne (ne_of_none e hp)]
  exact e, s.1, fun z => z.elim (fun y => ne_of_none e hp y) s.2⟩, fun q u s e => ⟨by
  show upd W.H p o q = some u
  rw [upd_ne (ne_of_none e hp)]
  exact e, .inr s⟩⟩
theorem Sim.hide {h : MH} (S : Sim K W h) {p : Addr} {o : HO} (hp : W.H p = none) (ho : ∀ vs, o ≠ .tup vs := by intro vs z; cases z) : Sim K (W.hide p o) h where
  n := S.n
  lt := S.lt
  inj := S.inj
  obj := fun l a e => by
    obtain ⟨u, e1, r⟩ := S.obj l a e
    refine ⟨u, e1, r.mono (Ext.hide S hp) ?_⟩
    show upd W.H p o a = W.H a
    obtain ⟨u2, q⟩ := r.has
    rw [upd_ne (ne_of_none q hp)]
  live := S.live
  nhid := fun l a e z => z.elim (fun y => (S.fresh hp).1 l (by rw [← y]; exact e)) (S.nhid l a e)
  hids := fun q hq => by
    by_cases hz : q = p
    · exact ⟨o, by rw [hz]; exact upd_same, ho⟩
    · obtain ⟨u, e1, n⟩ := S.hids q (hq.elim (fun y => absurd y hz) id)
      exact ⟨u, (upd_ne hz).trans e1, n⟩
theorem Ext.wrh {h : MH} {p : Addr} {o : HO} (hp : W.hid p) (S : Sim K W h) {W0 : Wd} (x : Ext W0 W) (h0 : W0.H p = none) : Ext W0 (W.wr p o) := ⟨x.le, x.agree, fun q u s e => ⟨by
  show upd W.H p o q = some u
  rw [upd_ne (ne_of_none e h0)]
  exact (x.frame q u s e).1, (x.frame q u s e).2⟩, fun q u s e => ⟨by
  show upd W.H p o q = some u
  rw [upd_ne (ne_of_none e h0)]
  exact (x.hidf q u s e).1, (x.hidf q u s e).2⟩⟩
theorem rd_wrh {p q : Addr} {o u : HO} (hp : W.hid p) (s : Stab W q) (e : Rd W.H q u) : Rd (W.wr p o).H q u := by
  have ne : q ≠ p := fun z => s.2 (by rw [z]; exact hp)
  rcases e with e | ⟨z, e⟩
  · exact .inl ((upd_ne ne).trans e)
  · exact .inr ⟨z, (upd_ne ne).trans e⟩
mutual
/-- what nobody sees may change -/
theorem RV.wrh {p : Addr} {o : HO} (hp : W.hid p) : ∀ {m : MV} {v : V}, RV K W m v → RV K (W.wr p o) m v
  | _, _, .non => .non
  | _, _, .bl b => .bl b
  | _, _, .int i => .int i
  | _, _, .str s => .str s
  | _, _, .ref lt e => .ref lt e
  | _, _, .tup s e r => .tup s ((upd_ne fun z => s.2 (by rw [z]; exact hp)).trans e) (RVs.wrh hp r)
  | _, _, .tupK e r => .tupK e (RVs.wrh hp r)
  | _, _, .fls s e r => .fls s ((upd_ne fun z => s.2 (by rw [z]; exact hp)).trans e) (RVs.wrh hp r)
  | _, _, .frz s e r => .frz s (rd_wrh hp s e) (RVs.wrh hp r)
  | _, _, .frzK e r => .frzK e (RVs.wrh hp r)
  | _, _, .exc0 => .exc0
  | _, _, .excD s e r => .excD s ((upd_ne fun z => s.2 (by rw [z]; exact hp)).trans e) (RVs.wrh hp r)
  | _, _, .fdt s e r => .fdt s ((upd_ne fun z => s.2 (by rw [z]; exact hp)).trans e) (RVs.wrh hp r)
theorem RVs.wrh {p : Addr} {o : HO} (hp : W.hid p) : ∀ {ms : List MV} {vs : List V}, RVs K W ms vs → RVs K (W.wr p o) ms vs
  | _, _, .nil => .nil
  | _, _, .cons r t => .cons (RV.wrh hp r) (RVs.wrh hp t)
end
theorem RKV.wrh {κ : Type} {p : Addr} {o : HO} (hp : W.hid p) : ∀ {ms : List (κ × MV)} {vs : List (κ × V)}, RKV K W ms vs → RKV K (W.wr p o) ms vs
  | _, _, .nil => .nil
  | _, _, .cons r t => .cons (r.wrh hp) (RKV.wrh hp t)
theorem Sim.wrh {h : MH} {p : Addr} {o : HO} (hp : W.hid p) (S : Sim K W h) (ho : ∀ vs, o ≠ .tup vs := by intro vs z; cases z) : Sim K (W.wr p o) h where
  n := S.n
  lt := S.lt
  inj := S.inj
  obj := fun l a e => by
    obtain ⟨u, e1, r⟩ := S.obj l a e
    have ne : a ≠ p := fun z => S.nhid l a e (by rw [z]; exact hp)
    have hH : (W.wr p o).H a = W.H a := upd_ne ne
    refine ⟨u, e1, ?_⟩
    cases u with
    | dead => exact r.elim
    | lst xs =>
      obtain ⟨vs, q, t⟩ := r
      exact ⟨vs, hH.trans q, t.wrh hp⟩
    | dK xs =>
      obtain ⟨vs, q, t⟩ := r
      exact ⟨vs, hH.trans q, t.wrh hp⟩
    | dT xs =>
      obtain ⟨vs, q, t⟩ := r
      exact ⟨vs, hH.trans q, t.wrh hp⟩
    | ins cn xs =>
      obtain ⟨C, dx, vs, hC, q, t⟩ := r
      exact ⟨C, dx, vs, hC, hH.trans q, t.wrh hp⟩
  live := S.live
  nhid := S.nhid
  hids := fun q hq => by
    by_cases hz : q = p
    · exact ⟨o, by rw [hz]; exact upd_same, ho⟩
    · obtain ⟨u, e1, n⟩ := S.hids q hq
      exact ⟨u, (upd_ne hz).trans e1, n⟩
def Wd.bare (W : Wd) (p : Addr) : Wd := ⟨W.f, W.n, fun b => if b = p then none else W.H b, fun q => q ≠ p ∧ W.hid q⟩
theorem Wd.bare_upd {p : Addr} {o : HO} (e : W.H p = some o) : upd (W.bare p).H p o = W.H := by
  funext b
  by_cases hb : b = p
  · rw [hb, upd_same, e]
  · rw [upd_ne hb]
    exact if_neg hb
theorem Wd.bare_ne {p q : Addr} (h : q ≠ p) : (W.bare p).H q = W.H q := if_neg h
theorem rd_bare {p q : Addr} {u : HO} (h : q ≠ p) (e : Rd W.H q u) : Rd (W.bare p).H q u := by
  rcases e with e | ⟨z, e⟩
  · exact .inl ((Wd.bare_ne h).trans e)
  · exact .inr ⟨z, (Wd.bare_ne h).trans e⟩
mutual
theorem RV.bare {p : Addr} (hp : W.hid p) : ∀ {m : MV} {v : V}, RV K W m v → RV K (W.bare p) m v
  | _, _, .non => .non
  | _, _, .bl b => .bl b
  | _, _, .int i => .int i
  | _, _, .str s => .str s
  | _, _, .ref lt e => .ref lt e
  | _, _, .tup s e r => .tup ⟨s.1, fun z => s.2 z.2⟩ ((Wd.bare_ne fun z => s.2 (by rw [z]; exact hp)).trans e) (RVs.bare hp r)
  | _, _, .tupK e r => .tupK e (RVs.bare hp r)
  | _, _, .fls s e r => .fls ⟨s.1, fun z => s.2 z.2⟩ ((Wd.bare_ne fun z => s.2 (by rw [z]; exact hp)).trans e) (RVs.bare hp r)
  | _, _, .frz s e r => .frz ⟨s.1, fun z => s.2 z.2⟩ (rd_bare (fun z => s.2 (by rw [z]; exact hp)) e) (RVs.bare hp r)
  | _, _, .frzK e r => .frzK e (RVs.bare hp r)
  | _, _, .exc0 => .exc0
  | _, _, .excD s e r => .excD ⟨s.1, fun z => s.2 z.2⟩ ((Wd.bare_ne fun z => s.2 (by rw [z]; exact hp)).trans e) (RVs.bare hp r)
  | _, _, .fdt s e r => .fdt ⟨s.1, fun z => s.2 z.2⟩ ((Wd.bare_ne fun z => s.2 (by rw [z]; exact hp)).trans e) (RVs.bare hp r)
theorem RVs.bare {p : Addr} (hp : W.hid p) : ∀ {ms : List MV} {vs : List V}, RVs K W ms vs → RVs K (W.bare p) ms vs
  | _, _, .nil => .nil
  | _, _, .cons r t => .cons (RV.bare hp r) (RVs.bare hp t)
end
theorem RKV.bare {κ : Type} {p : Addr} (hp : W.hid p) : ∀ {ms : List (κ × MV)} {vs : List (κ × V)}, RKV K W ms vs → RKV K (W.bare p) ms vs
  | _, _, .nil => .nil
  | _, _, .cons r t => .cons (r.bare hp) (RKV.bare hp t)
theorem Sim.bare {h : MH} {p : Addr} (hp : W.hid p) (S : Sim K W h) : Sim K (W.bare p) h where
  n := S.n
  lt := S.lt
  inj := S.inj
  obj := fun l a e => by
    obtain ⟨u, e1, r⟩ := S.obj l a e
    have ne : a ≠ p := fun z => S.nhid l a e (by rw [z]; exact hp)
    have hH : (W.bare p).H a = W.H a := Wd.bare_ne ne
    refine ⟨u, e1, ?_⟩
    cases u with
    | dead => exact r.elim
    | lst xs =>
      obtain ⟨vs, q, t⟩ := r
      exact ⟨vs, hH.trans q, t.bare hp⟩
    | dK xs =>
      obtain ⟨vs, q, t⟩ := r
      exact ⟨vs, hH.trans q, t.bare hp⟩
    | dT xs =>
      obtain ⟨vs, q, t⟩ := r
      exact ⟨vs, hH.trans q, t.bare hp⟩
    | ins cn xs =>
      obtain ⟨C, dx, vs, hC, q, t⟩ := r
      exact ⟨C, dx, vs, hC, hH.trans q, t.bare hp⟩
  live := S.live
  nhid := fun l a e z => S.nhid l a e z.2
  hids := fun q hq => by
    obtain ⟨u, e1, n⟩ := S.hids q hq.2
    exact ⟨u, (Wd.bare_ne hq.1).trans e1, n⟩
theorem Ext.bare {p : Addr} {W0 : Wd} (x : Ext W0 W) (h0 : W0.H p = none) : Ext W0 (W.bare p) := ⟨x.le, x.agree, fun q u s e => by
  have hq : q ≠ p := ne_of_none e h0
  obtain ⟨a, b⟩ := x.frame q u s e
  exact ⟨(Wd.bare_ne hq).trans a, b.1, fun z => b.2 z.2⟩, fun q u s e => by
  have hq : q ≠ p := ne_of_none e h0
  obtain ⟨a, b⟩ := x.hidf q u s e
  exact ⟨(Wd.bare_ne hq).trans a, hq, b⟩⟩
theorem Sim.at {h : MH} (S : Sim K W h) {l : Nat} {o : MO} {v : V} (e : h[l]? = some o) (d : o ≠ .dead) (r : RV K W (.ref l) v) : ∃ a, v = .ref a ∧ W.f l = some a ∧ RO K W o a := by
  obtain ⟨a, ea⟩ := S.live l o e d
  obtain ⟨u, e1, ro⟩ := S.obj l a ea
  rw [e] at e1
  cases e1
  cases r with
  | ref lt q => exact ⟨a, by rw [q a ea], ea, ro⟩
theorem Sim.lstAt {h : MH} (S : Sim K W h) {l : Nat} {xs : List MV} {v : V} (e : h[l]? = some (.lst xs)) (r : RV K W (.ref l) v) : ∃ a vs, v = .ref a ∧ W.f l = some a ∧ W.H a = some (.lst vs) ∧ RVs K W xs vs := by
  obtain ⟨a, e1, e2, vs, e3, r3⟩ := S.at e (by intro z; cases z) r
  exact ⟨a, vs, e1, e2, e3, r3⟩
end
inductive RS (K : PySem.W.Frag) (W : Wd) : MS → St → Prop
  | nil : RS K W [] []
  | no {o : Option V} {a : MS} {b : St} (t : RS K W a b) : RS K W (none :: a) (o :: b)
  | yes {x : MV} {v : V} {a : MS} {b : St} (r : RV K W x v) (t : RS K W a b) : RS K W (some x :: a) (some v :: b)
section
variable {K : PySem.W.Frag} {W W' : Wd}
theorem RS.mono (x : Ext W W') : ∀ {a : MS} {b : St}, RS K W a b → RS K W' a b
  | _, _, .nil => .nil
  | _, _, .no t => .no (RS.mono x t)
  | _, _, .yes r t => .yes (r.mono x) (RS.mono x t)
theorem RS.get : ∀ {a : MS} {b : St} {i : Nat} {x : MV}, RS K W a b → a[i]? = some (some x) → ∃ v, b[i]? = some (some v) ∧ RV K W x v
  | _, _, _, _, .nil, e => by simp at e
  | _, _, 0, _, .no _, e => by simp at e
  | _, _, 0, _, .yes r _, e => by
    simp at e
    subst e
    exact ⟨_, rfl, r⟩
  | _, _, i + 1, _, .no t, e => by
    obtain ⟨v, p, q⟩ := RS.get (i := i) t (by simpa using e)
    exact ⟨v, by simpa using p, q⟩
  | _, _, i + 1, _, .yes _ t, e => by
    obtain ⟨v, p, q⟩ := RS.get (i := i) t (by simpa using e)
    exact ⟨v, by simpa using p, q⟩
theorem RS.set {x : MV} {v : V} (r : RV K W x v) : ∀ {a : MS} {b : St} (i : Nat), RS K W a b → RS K W (a.set i (some x)) (b.set i (some v))
  | _, _, _, .nil => .nil
  | _, _, 0, .no t => .yes r t
  | _, _, 0, .yes _ t => .yes r t
  | _, _, i + 1, .no t => .no (RS.set r i t)
  | _, _, i + 1, .yes q t => .yes q (RS.set r i t)
theorem RS.clr : ∀ {a : MS} {b : St} (i : Nat) (o : Option V), RS K W a b → RS K W (a.set i none) (b.set i o)
  | _, _, _, _, .nil => .nil
  | _, _, 0, _, .no t => .no t
  | _, _, 0, _, .yes _ t => .no t
  | _, _, i + 1, o, .no t => .no (RS.clr i o t)
  | _, _, i + 1, o, .yes q t => .yes q (RS.clr i o t)
def wipeM (s : MS) : List Nat → MS
  | [] => s
  | v :: vs => (wipeM s vs).set v none
theorem RS.wipe {a : MS} {b : St} (t : RS K W a b) : ∀ vs : List Nat, RS K W (wipeM a vs) (L2.wipe b vs)
  | [] => t
  | v :: vs => (RS.wipe t vs).clr v none
theorem RS.start : ∀ {xs : List MV} {vs : List V}, RVs K W xs vs → ∀ k, RS K W (xs.map some ++ List.replicate k none) (vs.map some ++ List.replicate k none)
  | _, _, .nil, 0 => .nil
  | _, _, .nil, k + 1 => .no (RS.start .nil k)
  | _, _, .cons r t, k => .yes r (RS.start t k)
end
end Mi
set_option maxHeartbeats 2000000
namespace Mi
open PySem L2
structure XC where
  mg : Str → Option Value
  E : XK
inductive RF (K : PySem.W.Frag) (W : Wd) : List (Str × MV) → List (Str × V) → Prop
  | nil : RF K W [] []
  | cons {f : Str} {x : MV} {v : V} {xs : List (Str × MV)} {vs : List (Str × V)} (r : RV K W x v) (t : RF K W xs vs) : RF K W ((f, x) :: xs) ((f, v) :: vs)
def XR (K : PySem.W.Frag) (c : XC) (W : Wd) (e : MX) (C : Value) (d : Option Addr) : Prop :=
  c.mg e.cls = some C ∧ ∃ fs, RF K W e.flds fs ∧ ((d = none ∧ fs = []) ∨ ∃ a, d = some a ∧ Stab W a ∧ W.H a = some (.xd fs))
def PX (K : PySem.W.Frag) (c : XC) (W : Wd) (e : MX) (h : MH) : Prop := ∀ W' C d, Ext W W' → Sim K W' h → XR K c W' e C d → c.E C d W'.H
def Pst {α : Type} (K : PySem.W.Frag) (c : XC) (C : Wd → α → Prop) (W : Wd) (r : Res α) : Prop := match r with
  | none => False
  | some (.ok a h) => ∀ W', Ext W W' → Sim K W' h → C W' a
  | some (.ex e h) => PX K c W e h
theorem PX.shift {K : PySem.W.Frag} {c : XC} {W W' : Wd} {e : MX} {h : MH} (x : Ext W W') (p : PX K c W e h) : PX K c W' e h := fun W2 C d x2 s q => p W2 C d (x.trans x2) s q
section
variable {K : PySem.W.Frag} {c : XC} {α β : Type}
theorem Pst.shift {C : Wd → α → Prop} {W W' : Wd} {r : Res α} (x : Ext W W') (p : Pst K c C W r) : Pst K c C W' r := by
  match r, p with
  | some (.ok a h), p => exact fun W2 x2 s => p W2 (x.trans x2) s
  | some (.ex e h), p => exact PX.shift x p
theorem Pst.imp {C C' : Wd → α → Prop} {W : Wd} {r : Res α} (p : Pst K c C W r) (i : ∀ W' a, Ext W W' → C W' a → C' W' a) : Pst K c C' W r := by
  match r, p with
  | some (.ok a h), p => exact fun W2 x2 s => i W2 a x2 (p W2 x2 s)
  | some (.ex e h), p => exact p
theorem Pst.bnd {C1 : Wd → α → Prop} {C2 : Wd → β → Prop} {W : Wd} {r : Res α} {k : α → MH → Res β} (p : Pst K c C2 W (r.bnd k))
    (i : ∀ W1 h1 a, Ext W W1 → Sim K W1 h1 → Pst K c C2 W1 (k a h1) → C1 W1 a) : Pst K c C1 W r := by
  match r, p with
  | some (.ok a h), p => exact fun W2 x2 s => i W2 h a x2 s (Pst.shift x2 p)
  | some (.ex e h), p => exact p
end
def CV (K : PySem.W.Frag) (Q : VK) (W : Wd) (x : MV) : Prop := ∀ v, RV K W x v → Q v W.H
def CA (K : PySem.W.Frag) (Q : List V → Hp → Prop) (W : Wd) (xs : List MV) : Prop := ∀ vs, RVs K W xs vs → Q vs W.H
def CB (Q : Bool → Hp → Prop) (W : Wd) (b : Bool) : Prop := Q b W.H
def CO (Q : Option Int → Hp → Prop) (W : Wd) (o : Option Int) : Prop := Q o W.H
def CL (K : PySem.W.Frag) (Q : VK) (W : Wd) (xs : List MV) : Prop := ∀ vs p, RVs K W xs vs → W.H p = none → Q (.ref p) (upd W.H p (.lst vs))
def tG {α β : Type} (K : PySem.W.Frag) (c : XC) (C : (β → Hp → Prop) → Wd → α → Prop) (m : MM α) : St → Hp → (β → Hp → Prop) → Prop :=
  fun σ H Q => ∃ W h s, W.H = H ∧ Sim K W h ∧ RS K W s σ ∧ Pst K c (C Q) W (m s h)
abbrev tM (K : PySem.W.Frag) (c : XC) (m : ME) : TE := tG K c (CV K) m
abbrev tMA (K : PySem.W.Frag) (c : XC) (m : MM (List MV)) : TA := tG K c (CA K) m
abbrev tMB (K : PySem.W.Frag) (c : XC) (m : MM Bool) : TT := tG K c CB m
abbrev tMO (K : PySem.W.Frag) (c : XC) (m : MM (Option Int)) : TO := tG K c CO m
abbrev tML (K : PySem.W.Frag) (c : XC) (m : MM (List MV)) : TE := tG K c (CL K) m
abbrev EM (X : Cx) (c : XC) (e : Expr) (m : ME) : Prop := PE X e (tM X.K c m)
abbrev BM (X : Cx) (c : XC) (e : Expr) (m : MM Bool) : Prop := PT X e (tMB X.K c m)
abbrev AM (X : Cx) (c : XC) (es : List Expr) (m : MM (List MV)) : Prop := PA X es (tMA X.K c m)
abbrev LM (X : Cx) (c : XC) (e : Expr) (m : MM (List MV)) : Prop := PE X e (tML X.K c m)
theorem pe_wk {X : Cx} {e : Expr} {t t' : TE} (h : PE X e t) (w : ∀ σ H Q, t' σ H Q → t σ H Q) : PE X e t' := ⟨fun pins s σ H Q I q => h.run pins s σ H Q I (w _ _ _ q)⟩
theorem pt_wk {X : Cx} {e : Expr} {t t' : TT} (h : PT X e t) (w : ∀ σ H Q, t' σ H Q → t σ H Q) : PT X e t' := ⟨fun pins s σ H Q I q => h.run pins s σ H Q I (w _ _ _ q)⟩
theorem pw_wk {X : Cx} {e : Expr} {t t' : TT} (h : PW X e t) (w : ∀ σ H Q, t' σ H Q → t σ H Q) : PW X e t' := ⟨fun wh pins s σ H Q I q => h.run wh pins s σ H Q I (w _ _ _ q)⟩
theorem pa_wk {X : Cx} {e : List Expr} {t t' : TA} (h : PA X e t) (w : ∀ σ H Q, t' σ H Q → t σ H Q) : PA X e t' := ⟨fun po pins s σ H Q I q => h.run po pins s σ H Q I (w _ _ _ q)⟩
theorem po_wk {X : Cx} {e : Option Expr} {t t' : TO} (h : PO X e t) (w : ∀ σ H Q, t' σ H Q → t σ H Q) : PO X e t' := ⟨fun pins s σ H Q I q => h.run pins s σ H Q I (w _ _ _ q)⟩
abbrev ok {α : Type} (a : α) (h : MH) : Res α := some (.ok a h)
@[simp] theorem ok_inj {α : Type} {a b : α} {h h' : MH} : ok a h = ok b h' ↔ a = b ∧ h = h' := ⟨fun e => by
  cases e
  exact ⟨rfl, rfl⟩, fun ⟨e1, e2⟩ => by rw [e1, e2]⟩
@[simp] theorem ok_ne {α : Type} {a : α} {h : MH} : ¬ (ok a h = none) := fun e => by cases e
theorem bnd_ok {α β : Type} {a : α} {h : MH} {k : α → MH → Res β} : (ok a h).bnd k = k a h := rfl
@[simp ↓] def may {α : Type} (o : Option α) (h : MH) : Res α := match o with
  | some a => ok a h
  | none => none
@[simp ↓] def slot : MS → Nat → Option MV
  | [], _ => none
  | x :: _, 0 => x
  | _ :: r, n + 1 => slot r n
theorem slot_eq : ∀ (s : MS) (i : Nat) {x : MV}, slot s i = some x → s[i]? = some (some x)
  | [], _, _, e => by cases e
  | o :: _, 0, x, e => by
    have e' : o = some x := e
    rw [e']
    rfl
  | _ :: r, n + 1, x, e => by
    have := slot_eq r n (x := x) e
    simpa using this
@[simp ↓] def varM (i : Nat) : ME := fun s h => may (slot s i) h
@[simp ↓] def cM (x : MV) : ME := fun _ h => ok x h
@[simp ↓] def opM (f : MV → MV → MH → Res MV) (a b : ME) : ME := fun s h => (a s h).bnd fun x h1 => (b s h1).bnd fun y h2 => f x y h2
@[simp ↓] def unM (f : MV → MH → Res MV) (a : ME) : ME := fun s h => (a s h).bnd fun x h1 => f x h1
@[simp ↓] def nilA : MM (List MV) := fun _ h => ok [] h
@[simp ↓] def consA (a : ME) (r : MM (List MV)) : MM (List MV) := fun s h => (a s h).bnd fun x h1 => (r s h1).bnd fun xs h2 => ok (x :: xs) h2
def lim : Nat := 1000000
theorem lim_line {n : Nat} (h : n ≤ lim) : n ≤ sizeLine := Nat.le_trans h (by rw [sizeLine_eq]; decide)
@[simp ↓] def tupM (a : MM (List MV)) : ME := fun s h => (a s h).bnd fun xs h1 => if xs.length ≤ lim then ok (.tup xs) h1 else none
@[simp ↓] def lstM (a : MM (List MV)) : MM (List MV) := fun s h => (a s h).bnd fun xs h1 => if xs.length ≤ lim then ok xs h1 else none
@[simp ↓] def flsM (m : MM (List MV)) : ME := fun s h => (m s h).bnd fun xs h1 => ok (.fls xs) h1
@[simp ↓] def refM (m : MM (List MV)) : ME := fun s h => (m s h).bnd fun xs h1 => ok (.ref h1.length) (h1 ++ [.lst xs])
@[simp ↓] def lstOf (h : MH) : MV → Option (List MV)
  | .fls xs => some xs
  | .frz xs => some xs
  | .ref l => match h[l]? with
    | some (.lst xs) => some xs
    | _ => none
  | _ => none
@[simp ↓] def seqOf (h : MH) : MV → Option (List MV)
  | .tup xs => some xs
  | .ktp xs => some xs
  | x => lstOf h x
section
variable {X : Cx} {c : XC} {e a b : Expr} {es : List Expr} {pos : Pos} {K : PySem.W.Frag} {W : Wd}
theorem em_var {i : Nat} (h : PE X e (tVar i)) : EM X c e (varM i) := pe_wk h fun σ H Q ⟨W, h, s, e, S, rs, p⟩ => by
  subst e
  cases q : slot s i with
  | none =>
    unfold varM may at p
    rw [q] at p
    exact p.elim
  | some x =>
    unfold varM may at p
    rw [q] at p
    obtain ⟨v, hv, r⟩ := rs.get (slot_eq s i q)
    exact ⟨v, hv, p W (Ext.refl W) S v r⟩
theorem em_c {x : MV} {v : V} (h : PE X e (tC v)) (r : ∀ W, RV X.K W x v) : EM X c e (cM x) := pe_wk h fun σ H Q ⟨W, h, s, e, S, rs, p⟩ => by
  subst e
  exact p W (Ext.refl W) S v (r W)
theorem em_int {i j} : EM X c (.Constant (.int i) j pos) (cM (.int i)) := em_c pe_int fun _ => .int i
theorem em_bl {b j} : EM X c (.Constant (.bool b) j pos) (cM (.bl b)) := em_c pe_bl fun _ => .bl b
theorem em_non {j} : EM X c (.Constant .none j pos) (cM .non) := em_c pe_non fun _ => .non
theorem em_str {x j} : EM X c (.Constant (.str x) j pos) (cM (.str x)) := em_c pe_str fun _ => .str x
theorem am_nil : AM X c [] nilA := pa_wk pa_nil fun σ H Q ⟨W, h, s, e, S, rs, p⟩ => by
  subst e
  exact p W (Ext.refl W) S [] .nil
theorem am_cons {ma : ME} {mr : MM (List MV)} (ha : EM X c e ma) (hr : AM X c es mr) (hs : starEach (e :: es) X.env = (false, eval e X.env) :: starEach es X.env := by rfl) : AM X c (e :: es) (consA ma mr) :=
  pa_wk (pa_cons ha hr hs) fun σ H Q ⟨W, h, s, e, S, rs, p⟩ => by
    subst e
    refine ⟨W, h, s, rfl, S, rs, p.bnd fun W1 h1 x x1 S1 p1 v r1 => ?_⟩
    exact ⟨W1, h1, s, rfl, S1, rs.mono x1, p1.bnd fun W2 h2 xs x2 S2 p2 vs r2 => p2 W2 (Ext.refl _) S2 _ (.cons (r1.mono x2) r2)⟩
def OpM (K : PySem.W.Frag) (c : XC) (r : R2) (f : MV → MV → MH → Res MV) : Prop :=
  ∀ (W : Wd) (h : MH) (x y : MV) (u v : V) (Q : VK), Sim K W h → RV K W x u → RV K W y v → Pst K c (CV K Q) W (f x y h) → r u v W.H Q
theorem tOp_of {r : R2} {f : MV → MV → MH → Res MV} {ma mb : ME} (ho : OpM K c r f) {σ : St} {H : Hp} {Q : VK} (q : tM K c (opM f ma mb) σ H Q) : tOp r (tM K c ma) (tM K c mb) σ H Q := by
  obtain ⟨W, h, s, e, S, rs, p⟩ := q
  subst e
  refine ⟨W, h, s, rfl, S, rs, p.bnd fun W1 h1 x x1 S1 p1 u r1 => ?_⟩
  exact ⟨W1, h1, s, rfl, S1, rs.mono x1, p1.bnd fun W2 h2 y x2 S2 p2 v r2 => ho W2 h2 x y u v Q S2 (r1.mono x2) r2 p2⟩
theorem em_op {op : Operator} {r : R2} {f : MV → MV → MH → Res MV} {ma mb : ME} (hr : OpR X (binaryOp op) r) (ho : OpM X.K c r f) (ha : EM X c a ma) (hb : EM X c b mb) : EM X c (.BinOp a op b pos) (opM f ma mb) :=
  pe_wk (pe_op hr ha hb) fun σ H Q q => tOp_of ho q
theorem em_cmp {op : CmpOp} {r : R2} {f : MV → MV → MH → Res MV} {ma mb : ME} (hr : OpR X (compareOp op) r) (ho : OpM X.K c r f) (ha : EM X c a ma) (hb : EM X c b mb) (hm : behindInMarks op b = false) : EM X c (.Compare a [op] [b] pos) (opM f ma mb) :=
  pe_wk (pe_cmpR hr ha hb hm) fun σ H Q q => tOp_of ho q
theorem em_ix {r : R2} {f : MV → MV → MH → Res MV} {ma mb : ME} (hr : IxR X r) (ho : OpM X.K c r f) (ha : EM X c a ma) (hb : EM X c b mb) (hs : PlainIx b) : EM X c (.Subscript a b pos) (opM f ma mb) :=
  pe_wk (pe_ix hr ha hb hs) fun σ H Q q => tOp_of ho q
theorem em_tup {k : Nat} {m : MM (List MV)} (h : AM X c es m) : EM X c (.Tuple es k pos) (tupM m) := pe_wk (pe_tup h) fun σ H Q ⟨W, h, s, e, S, rs, p⟩ => by
  subst e
  refine ⟨W, h, s, rfl, S, rs, p.bnd fun W1 h1 xs x1 S1 p1 vs r1 => ?_⟩
  by_cases hl : xs.length ≤ lim
  · rw [if_pos hl] at p1
    refine ⟨lim_line (by rw [← r1.length]; exact hl), fun q hq => ?_⟩
    exact p1 (W1.put q (.tup vs)) (Ext.put S1 hq) (S1.put hq) (.ref q) (.tup (S1.fresh hq) upd_same (r1.mono (Ext.put S1 hq)))
  · rw [if_neg hl] at p1
    exact p1.elim
theorem lm_lst {m : MM (List MV)} (h : AM X c es m) : LM X c (.List es pos) (lstM m) := pe_wk (pe_lst h) fun σ H Q ⟨W, h, s, e, S, rs, p⟩ => by
  subst e
  refine ⟨W, h, s, rfl, S, rs, p.bnd fun W1 h1 xs x1 S1 p1 vs r1 => ?_⟩
  by_cases hl : xs.length ≤ lim
  · rw [if_pos hl] at p1
    exact ⟨lim_line (by rw [← r1.length]; exact hl), fun q hq => p1 W1 (Ext.refl _) S1 vs q r1 hq⟩
  · rw [if_neg hl] at p1
    exact p1.elim
theorem fls_of {m : MM (List MV)} {σ : St} {H : Hp} {Q : VK} (q : tM K c (flsM m) σ H Q) : tML K c m σ H Q := by
  obtain ⟨W, h, s, e, S, rs, p⟩ := q
  subst e
  refine ⟨W, h, s, rfl, S, rs, p.bnd fun W1 h1 xs x1 S1 p1 vs q r1 hq => ?_⟩
  exact p1 (W1.put q (.lst vs)) (Ext.put S1 hq) (S1.put hq) (.ref q) (.fls (S1.fresh hq) upd_same (r1.mono (Ext.put S1 hq)))
theorem ref_of {m : MM (List MV)} {σ : St} {H : Hp} {Q : VK} (q : tM K c (refM m) σ H Q) : tML K c m σ H Q := by
  obtain ⟨W, h, s, e, S, rs, p⟩ := q
  subst e
  refine ⟨W, h, s, rfl, S, rs, p.bnd fun W1 h1 xs x1 S1 p1 vs q r1 hq => ?_⟩
  refine p1 (W1.add q (.lst vs)) (Ext.add S1 hq) (S1.add hq ⟨vs, upd_same, r1.mono (Ext.add S1 hq)⟩) (.ref q) (.ref ?_ fun b hb => ?_)
  · show h1.length < W1.n + 1
    rw [S1.n]
    exact Nat.lt_succ_self _
  · have hb' : (if h1.length = W1.n then some q else W1.f h1.length) = some b := hb
    rw [if_pos S1.n.symm] at hb'
    exact (Option.some.inj hb').symm
theorem em_fls {m : MM (List MV)} (h : LM X c e m) : EM X c e (flsM m) := pe_wk h fun _ _ _ q => fls_of q
theorem em_ref {m : MM (List MV)} (h : LM X c e m) : EM X c e (refM m) := pe_wk h fun _ _ _ q => ref_of q
theorem lst_sq {h : MH} {x : MV} {v : V} {xs : List MV} (S : Sim K W h) (r : RV K W x v) (e : lstOf h x = some xs) : ∃ p vs, v = .ref p ∧ SqL K W.H p vs ∧ RVs K W xs vs := by
  cases r with
  | fls s q t =>
    cases e
    exact ⟨_, _, rfl, .inl (.inl q), t⟩
  | frz s q t =>
    cases e
    exact ⟨_, _, rfl, .inl q, t⟩
  | frzK q t =>
    cases e
    exact ⟨_, _, rfl, q _, t⟩
  | @ref l a0 lt q =>
    have e' : (match h[l]? with | some (.lst xs) => some xs | _ => none) = some xs := e
    cases hl : h[l]? with
    | none =>
      rw [hl] at e'
      cases e'
    | some o =>
      rw [hl] at e'
      cases o with
      | lst ys =>
        cases e'
        obtain ⟨a, vs, e1, e2, e3, r3⟩ := S.lstAt hl (.ref lt q)
        exact ⟨a, vs, e1, .inl (.inl e3), r3⟩
      | _ => cases e'
  | _ => cases e
theorem tup_sq {x : List MV} {v : V} (r : RV K W (.tup x) v) : ∃ p vs, v = .ref p ∧ SqT K W.H p vs ∧ RVs K W x vs := by
  cases r with
  | tup s q t => exact ⟨_, _, rfl, .inl (.inl q), t⟩
theorem ktp_sq {x : List MV} {v : V} (r : RV K W (.ktp x) v) : ∃ p vs, v = .ref p ∧ SqT K W.H p vs ∧ RVs K W x vs := by
  cases r with
  | tupK q t => exact ⟨_, _, rfl, q _, t⟩
theorem seq_sq {h : MH} {x : MV} {v : V} {xs : List MV} (S : Sim K W h) (r : RV K W x v) (e : seqOf h x = some xs) : ∃ p vs, v = .ref p ∧ (SqL K W.H p vs ∨ SqT K W.H p vs) ∧ RVs K W xs vs := by
  cases x with
  | tup ys =>
    cases e
    obtain ⟨p, vs, a, b, d⟩ := tup_sq r
    exact ⟨p, vs, a, .inr b, d⟩
  | ktp ys =>
    cases e
    obtain ⟨p, vs, a, b, d⟩ := ktp_sq r
    exact ⟨p, vs, a, .inr b, d⟩
  | _ =>
    obtain ⟨p, vs, a, b, d⟩ := lst_sq S r e
    exact ⟨p, vs, a, .inl b, d⟩
end
end Mi
set_option maxHeartbeats 2000000
namespace Mi
open PySem L2
def mulOk (i j : Int) : Prop := (-18446744073709551616 < i ∧ i < 18446744073709551616) ∨ (-18446744073709551616 < j ∧ j < 18446744073709551616)
noncomputable instance (i j : Int) : Decidable (mulOk i j) := Classical.propDecidable _
@[simp ↓] def addF (x y : MV) (h : MH) : Res MV := match x, y with
  | .int i, .int j => ok (.int (i + j)) h
  | .str i, .str j => if i.length + j.length ≤ lim then ok (.str (i ++ j)) h else none
  | .tup i, .tup j => if i.length + j.length ≤ lim then ok (.tup (i ++ j)) h else none
  | _, _ => none
@[simp ↓] def subF (x y : MV) (h : MH) : Res MV := match x, y with
  | .int i, .int j => ok (.int (i - j)) h
  | _, _ => none
@[simp ↓] noncomputable def mulF (x y : MV) (h : MH) : Res MV := match x, y with
  | .int i, .int j => if mulOk i j then ok (.int (i * j)) h else none
  | _, _ => none
@[simp ↓] def divF (x y : MV) (h : MH) : Res MV := match x, y with
  | .int i, .int j => if 0 < j ∧ j < 1073741824 then ok (.int (i / j)) h else none
  | _, _ => none
@[simp ↓] def modF (x y : MV) (h : MH) : Res MV := match x, y with
  | .int i, .int j => if 0 < j then ok (.int (i % j)) h else none
  | _, _ => none
@[simp ↓] def andF (x y : MV) (h : MH) : Res MV := match x, y with
  | .int i, .int j => ok (.int (Builtin.bitAnd i j)) h
  | _, _ => none
@[simp ↓] def orF (x y : MV) (h : MH) : Res MV := match x, y with
  | .int i, .int j => ok (.int (Builtin.bitOr i j)) h
  | _, _ => none
@[simp ↓] def xorF (x y : MV) (h : MH) : Res MV := match x, y with
  | .int i, .int j => ok (.int (Builtin.bitXor i j)) h
  | _, _ => none
def powOk (i j : Int) : Prop := 0 ≤ j ∧ j ≤ 1000000 ∧ i.natAbs < 18446744073709551616
instance (i j : Int) : Decidable (powOk i j) := by unfold powOk; exact inferInstance
@[simp ↓] def powF (x y : MV) (h : MH) : Res MV := match x, y with
  | .int i, .int j => if powOk i j then ok (.int (i ^ j.toNat)) h else none
  | _, _ => none
@[simp ↓] def shlF (x y : MV) (h : MH) : Res MV := match x, y with
  | .int i, .int j => if powOk i j then ok (.int (i * 2 ^ j.toNat)) h else none
  | _, _ => none
@[simp ↓] def shrF (x y : MV) (h : MH) : Res MV := match x, y with
  | .int i, .int j => if 0 ≤ j then ok (.int (i / 2 ^ j.toNat)) h else none
  | _, _ => none
@[simp ↓] def negF (x : MV) (h : MH) : Res MV := match x with
  | .int i => ok (.int (-i)) h
  | _ => none
@[simp ↓] def invF (x : MV) (h : MH) : Res MV := match x with
  | .int i => ok (.int (Builtin.bitNot i)) h
  | _ => none
section
variable {X : Cx} {c : XC} {K : PySem.W.Frag}
theorem rv_int {W : Wd} {i : Int} {v : V} (r : RV K W (.int i) v) : v = .int i := by
  cases r
  rfl
theorem rv_bl {W : Wd} {i : Bool} {v : V} (r : RV K W (.bl i) v) : v = .bl i := by
  cases r
  rfl
theorem rv_str {W : Wd} {i : Str} {v : V} (r : RV K W (.str i) v) : v = .str i := by
  cases r
  rfl
theorem rv_non {W : Wd} {v : V} (r : RV K W .non v) : v = .non := by
  cases r
  rfl
theorem Pst.now {α : Type} {C : Wd → α → Prop} {W : Wd} {h : MH} {a : α} (p : Pst K c C W (ok a h)) (S : Sim K W h) : C W a := p W (Ext.refl W) S
theorem opm_I0 {f : MV → MV → MH → Res MV} {g : Int → Int → Int} (hf : ∀ x y h, (∃ i j, x = .int i ∧ y = .int j ∧ f x y h = ok (.int (g i j)) h) ∨ f x y h = none) : OpM K c (rI0 fun i j => .int (g i j)) f :=
  fun W h x y u v Q S r1 r2 p => by
    rcases hf x y h with ⟨i, j, e1, e2, e⟩ | e
    · subst e1 e2
      rw [e] at p
      exact ⟨i, j, rv_int r1, rv_int r2, p.now S _ (.int _)⟩
    · rw [e] at p
      exact p.elim
theorem opm_I {C : Int → Int → Prop} {f : MV → MV → MH → Res MV} {g : Int → Int → Int} (hf : ∀ x y h, (∃ i j, x = .int i ∧ y = .int j ∧ C i j ∧ f x y h = ok (.int (g i j)) h) ∨ f x y h = none) : OpM K c (rI C fun i j => .int (g i j)) f :=
  fun W h x y u v Q S r1 r2 p => by
    rcases hf x y h with ⟨i, j, e1, e2, hc, e⟩ | e
    · subst e1 e2
      rw [e] at p
      exact ⟨i, j, rv_int r1, rv_int r2, hc, p.now S _ (.int _)⟩
    · rw [e] at p
      exact p.elim
theorem opm_sub : OpM K c (rI0 fun i j => .int (i - j)) subF := opm_I0 fun x y h => by
  cases x <;> cases y <;> first | exact .inr rfl | exact .inl ⟨_, _, rfl, rfl, rfl⟩
theorem opm_mul : OpM K c (rI CMul fun i j => .int (i * j)) mulF := opm_I fun x y h => by
  cases x <;> cases y <;> first | exact .inr rfl | skip
  rename_i i j
  by_cases q : mulOk i j
  · exact .inl ⟨i, j, rfl, rfl, q, if_pos q⟩
  · exact .inr (if_neg q)
theorem opm_div : OpM K c (rI CDiv fun i j => .int (i / j)) divF := opm_I fun x y h => by
  cases x <;> cases y <;> first | exact .inr rfl | skip
  rename_i i j
  by_cases q : 0 < j ∧ j < 1073741824
  · exact .inl ⟨i, j, rfl, rfl, q, if_pos q⟩
  · exact .inr (if_neg q)
theorem opm_mod : OpM K c (rI (fun _ j => 0 < j) fun i j => .int (i % j)) modF := opm_I fun x y h => by
  cases x <;> cases y <;> first | exact .inr rfl | skip
  rename_i i j
  by_cases q : 0 < j
  · exact .inl ⟨i, j, rfl, rfl, q, if_pos q⟩
  · exact .inr (if_neg q)
def rAddA (K : PySem.W.Frag) : R2 := fun x y H Q => (∃ i j, x = .int i ∧ y = .int j ∧ Q (.int (i + j)) H) ∨ (∃ i j, x = .str i ∧ y = .str j ∧ i.length + j.length ≤ sizeLine ∧ Q (.str (i ++ j)) H) ∨ rCatA K x y H Q
theorem op_addA : OpR X (binaryOp .Add) (rAddA X.K) := OpR.or op_add (OpR.or op_add_str op_catA)
theorem opm_add : OpM K c (rAddA K) addF := fun W h x y u v Q S r1 r2 p => by
  cases x <;> cases y <;> first | exact p.elim | skip
  · rename_i i j
    exact .inl ⟨i, j, rv_int r1, rv_int r2, p.now S _ (.int _)⟩
  · rename_i i j
    by_cases q : i.length + j.length ≤ lim
    · have p' : Pst K c (CV K Q) W (if i.length + j.length ≤ lim then ok (.str (i ++ j)) h else none) := p
      rw [if_pos q] at p'
      exact .inr (.inl ⟨i, j, rv_str r1, rv_str r2, lim_line q, p'.now S _ (.str _)⟩)
    · have p' : Pst K c (CV K Q) W (if i.length + j.length ≤ lim then ok (.str (i ++ j)) h else none) := p
      rw [if_neg q] at p'
      exact p'.elim
  · rename_i i j
    have p' : Pst K c (CV K Q) W (if i.length + j.length ≤ lim then ok (.tup (i ++ j)) h else none) := p
    by_cases q : i.length + j.length ≤ lim
    · rw [if_pos q] at p'
      obtain ⟨a, xs, rfl, ha, t1⟩ := tup_sq r1
      obtain ⟨b, ys, rfl, hb, t2⟩ := tup_sq r2
      refine .inr (.inr ⟨a, b, xs, ys, rfl, rfl, ha, hb, lim_line (by rw [← t1.length, ← t2.length]; exact q), fun e => ?_, fun e e' => ?_, fun e e' d hd => ?_⟩)
      · subst e
        cases t1
        exact p'.now S _ r2
      · subst e'
        cases t2
        rw [List.append_nil] at p'
        exact p'.now S _ r1
      · exact p' (W.put d (.tup (xs ++ ys))) (Ext.put S hd) (S.put hd) (.ref d) (.tup (S.fresh hd) upd_same ((t1.mono (Ext.put S hd)).append (t2.mono (Ext.put S hd))))
    · rw [if_neg q] at p'
      exact p'.elim
end
@[simp ↓] def ltF (x y : MV) (h : MH) : Res MV := match x, y with
  | .int i, .int j => ok (.bl (decide (i < j))) h
  | _, _ => none
@[simp ↓] def leF (x y : MV) (h : MH) : Res MV := match x, y with
  | .int i, .int j => ok (.bl (decide (i ≤ j))) h
  | _, _ => none
@[simp ↓] def gtF (x y : MV) (h : MH) : Res MV := match x, y with
  | .int i, .int j => ok (.bl (decide (j < i))) h
  | _, _ => none
@[simp ↓] def geF (x y : MV) (h : MH) : Res MV := match x, y with
  | .int i, .int j => ok (.bl (decide (j ≤ i))) h
  | _, _ => none
mutual
/-- a value as plain data (no place of the heap in it) -/
def pyOf : MV → Option PyData
  | .non => some .none
  | .bl b => some (.bool b)
  | .int i => some (.int i)
  | .str x => some (.str x)
  | .tup xs => (pysOf xs).map .tuple
  | .ktp xs => (pysOf xs).map .tuple
  | .fls xs => (pysOf xs).map .list
  | .frz xs => (pysOf xs).map .list
  | .ref _ => none
  | .exc .. => none
  | .fdt .. => none
def pysOf : List MV → Option (List PyData)
  | [] => some []
  | x :: xs => match pyOf x, pysOf xs with
    | some d, some ds => some (d :: ds)
    | _, _ => none
end
def eqB (x y : MV) : Option Bool := match x, y with
  | .int i, .int j => some (decide (i = j))
  | .bl i, .bl j => some (decide (i = j))
  | .str i, .str j => some (decide (i = j))
  | .non, .non => some true
  | _, _ => match pyOf x, pyOf y with
    | some d, some e => if SeqAt.shaped d = true ∧ SeqAt.shaped e = true then some (PyData.eqv d e) else none
    | _, _ => none
@[simp ↓] def eqF (x y : MV) (h : MH) : Res MV := match eqB x y with
  | some b => ok (.bl b) h
  | none => none
@[simp ↓] def neF (x y : MV) (h : MH) : Res MV := match eqB x y with
  | some b => ok (.bl (!b)) h
  | none => none
@[simp ↓] def isnF (x : MV) (h : MH) : Res MV := match x with
  | .non => ok (.bl true) h
  | _ => ok (.bl false) h
@[simp ↓] def notnF (x : MV) (h : MH) : Res MV := match x with
  | .non => ok (.bl false) h
  | _ => ok (.bl true) h
@[simp ↓] def isF (x y : MV) (h : MH) : Res MV := match y with
  | .non => isnF x h
  | _ => none
@[simp ↓] def notF (x y : MV) (h : MH) : Res MV := match y with
  | .non => notnF x h
  | _ => none
section
variable {X : Cx} {c : XC} {K : PySem.W.Frag} {W : Wd}
theorem opm_B0 {f : MV → MV → MH → Res MV} {g : Int → Int → Bool} (hf : ∀ x y h, (∃ i j, x = .int i ∧ y = .int j ∧ f x y h = ok (.bl (g i j)) h) ∨ f x y h = none) : OpM K c (rI0 fun i j => .bl (g i j)) f :=
  fun W h x y u v Q S r1 r2 p => by
    rcases hf x y h with ⟨i, j, e1, e2, e⟩ | e
    · subst e1 e2
      rw [e] at p
      exact ⟨i, j, rv_int r1, rv_int r2, p.now S _ (.bl _)⟩
    · rw [e] at p
      exact p.elim
theorem opm_lt : OpM K c (rI0 fun i j => .bl (decide (i < j))) ltF := opm_B0 fun x y h => by
  cases x <;> cases y <;> first | exact .inr rfl | exact .inl ⟨_, _, rfl, rfl, rfl⟩
theorem opm_gt : OpM K c (rI0 fun i j => .bl (decide (j < i))) gtF := opm_B0 fun x y h => by
  cases x <;> cases y <;> first | exact .inr rfl | exact .inl ⟨_, _, rfl, rfl, rfl⟩
mutual
theorem py_dp : ∀ {x : MV} {v : V} {d : PyData}, RV K W x v → pyOf x = some d → Dp K W.H v d
  | .non, _, _, .non, e => by
    cases e
    exact .non
  | .bl b, _, _, .bl _, e => by
    cases e
    exact .bl b
  | .int i, _, _, .int _, e => by
    cases e
    exact .int i
  | .str x, _, _, .str _, e => by
    cases e
    exact .str x
  | .tup xs, _, d, .tup s q t, e => by
    unfold pyOf at e
    cases h : pysOf xs with
    | none =>
      rw [h] at e
      cases e
    | some ds =>
      rw [h] at e
      cases e
      exact .tup (.inl (.inl q)) (pys_dp t h)
  | .ktp xs, _, d, .tupK q t, e => by
    unfold pyOf at e
    cases h : pysOf xs with
    | none =>
      rw [h] at e
      cases e
    | some ds =>
      rw [h] at e
      cases e
      exact .tup (q _) (pys_dp t h)
  | .fls xs, _, d, .fls s q t, e => by
    unfold pyOf at e
    cases h : pysOf xs with
    | none =>
      rw [h] at e
      cases e
    | some ds =>
      rw [h] at e
      cases e
      exact .lst (.inl (.inl q)) (pys_dp t h)
  | .frz xs, _, d, .frz s q t, e => by
    unfold pyOf at e
    cases h : pysOf xs with
    | none =>
      rw [h] at e
      cases e
    | some ds =>
      rw [h] at e
      cases e
      exact .lst (.inl q) (pys_dp t h)
  | .frz xs, _, d, .frzK q t, e => by
    unfold pyOf at e
    cases h : pysOf xs with
    | none =>
      rw [h] at e
      cases e
    | some ds =>
      rw [h] at e
      cases e
      exact .lst (q _) (pys_dp t h)
  | .ref _, _, _, _, e => by cases e
  | .exc .., _, _, _, e => by cases e
  | .fdt .., _, _, _, e => by cases e
theorem pys_dp : ∀ {xs : List MV} {vs : List V} {ds : List PyData}, RVs K W xs vs → pysOf xs = some ds → DpAll K W.H vs ds
  | [], _, _, .nil, e => by
    cases e
    exact .nil
  | x :: xs, _, _, .cons r t, e => by
    unfold pysOf at e
    cases h : pyOf x with
    | none =>
      rw [h] at e
      cases e
    | some d =>
      cases h2 : pysOf xs with
      | none =>
        rw [h, h2] at e
        cases e
      | some ds =>
        rw [h, h2] at e
        cases e
        exact .cons (py_dp r h) (pys_dp t h2)
end
def rEqA (K : PySem.W.Frag) : R2 := fun x y H Q => rEq x y H Q ∨ rEqD K x y H Q
def rNeA (K : PySem.W.Frag) : R2 := fun x y H Q => rNe x y H Q ∨ rNeD K x y H Q
theorem op_eqA (hu : X.A.units + 64 < cLine) : OpR X (compareOp .Eq) (rEqA X.K) := OpR.or op_eq (op_eqD hu)
theorem op_neA (hu : X.A.units + 64 < cLine) : OpR X (compareOp .NotEq) (rNeA X.K) := OpR.or op_ne (op_neD hu)
theorem eqB_cases {x y : MV} {u v : V} {b : Bool} (r1 : RV K W x u) (r2 : RV K W y v) (e : eqB x y = some b) :
    (scal u v = true ∧ decide (u = v) = b) ∨ ∃ d e, Dp K W.H u d ∧ Dp K W.H v e ∧ SeqAt.shaped d = true ∧ SeqAt.shaped e = true ∧ PyData.eqv d e = b := by
  have deep : ∀ x y : MV, RV K W x u → RV K W y v → (match pyOf x, pyOf y with | some d, some e => if SeqAt.shaped d = true ∧ SeqAt.shaped e = true then some (PyData.eqv d e) else none | _, _ => none) = some b →
      ∃ d e, Dp K W.H u d ∧ Dp K W.H v e ∧ SeqAt.shaped d = true ∧ SeqAt.shaped e = true ∧ PyData.eqv d e = b := fun x y r1 r2 e => by
    cases h : pyOf x with
    | none =>
      rw [h] at e
      cases e
    | some d =>
      cases h2 : pyOf y with
      | none =>
        rw [h, h2] at e
        cases e
      | some d2 =>
        rw [h, h2] at e
        have e' : (if SeqAt.shaped d = true ∧ SeqAt.shaped d2 = true then some (PyData.eqv d d2) else none) = some b := e
        by_cases q : SeqAt.shaped d = true ∧ SeqAt.shaped d2 = true
        · rw [if_pos q] at e'
          exact ⟨d, d2, py_dp r1 h, py_dp r2 h2, q.1, q.2, Option.some.inj e'⟩
        · rw [if_neg q] at e'
          cases e'
  cases x <;> cases y <;> first
    | exact .inr (deep _ _ r1 r2 e)
    | (cases r1; cases r2; exact .inl ⟨rfl, by simpa [eqB] using e⟩)
theorem opm_eq : OpM K c (rEqA K) eqF := fun W h x y u v Q S r1 r2 p => by
  unfold eqF at p
  cases e : eqB x y with
  | none =>
    rw [e] at p
    exact p.elim
  | some b =>
    rw [e] at p
    rcases eqB_cases r1 r2 e with ⟨a, d⟩ | ⟨d, e2, a1, a2, a3, a4, a5⟩
    · exact .inl ⟨a, by rw [d]; exact p.now S _ (.bl _)⟩
    · exact .inr ⟨d, e2, a1, a2, a3, a4, by rw [a5]; exact p.now S _ (.bl _)⟩
theorem opm_ne : OpM K c (rNeA K) neF := fun W h x y u v Q S r1 r2 p => by
  unfold neF at p
  cases e : eqB x y with
  | none =>
    rw [e] at p
    exact p.elim
  | some b =>
    rw [e] at p
    rcases eqB_cases r1 r2 e with ⟨a, d⟩ | ⟨d, e2, a1, a2, a3, a4, a5⟩
    · exact .inl ⟨a, by rw [d]; exact p.now S _ (.bl _)⟩
    · exact .inr ⟨d, e2, a1, a2, a3, a4, by rw [a5]; exact p.now S _ (.bl _)⟩
theorem opm_isn : OpM K c (fun x y H Q => y = .non ∧ Q (.bl (decide (x = .non))) H) isF := fun W h x y u v Q S r1 r2 p => by
  cases y <;> first | exact p.elim | skip
  refine ⟨rv_non r2, ?_⟩
  cases x <;> cases r1 <;> exact p.now S _ (.bl _)
end
@[simp ↓] def flatM : MV → Bool
  | .non => true
  | .bl _ => true
  | .int _ => true
  | .str _ => true
  | _ => false
@[simp ↓] def eqM : MV → MV → Bool
  | .non, .non => true
  | .bl a, .bl b => a == b
  | .bl a, .int b => (if a then 1 else 0) == b
  | .int a, .bl b => a == (if b then 1 else 0)
  | .int a, .int b => a == b
  | .str a, .str b => a == b
  | _, _ => false
def inM (x : MV) (xs : List MV) : Bool := xs.any fun y => eqM y x
@[simp ↓] def inF (x y : MV) (h : MH) : Res MV := match seqOf h y with
  | some xs => if flatM x = true ∧ xs.all flatM = true then ok (.bl (inM x xs)) h else none
  | none => none
@[simp ↓] def ninF (x y : MV) (h : MH) : Res MV := match seqOf h y with
  | some xs => if flatM x = true ∧ xs.all flatM = true then ok (.bl (!inM x xs)) h else none
  | none => none
section
variable {X : Cx} {c : XC} {K : PySem.W.Frag} {W : Wd}
end
@[simp ↓] def ixF (x y : MV) (h : MH) : Res MV := match y with
  | .int i => match x with
    | .str z => if z.length ≤ lim then (match atI z.cps.toList i with
      | some q => ok (.str ⟨#[q]⟩) h
      | none => none) else none
    | _ => match seqOf h x with
      | some xs => match atI xs i with
        | some z => ok z h
        | none => none
      | none => none
  | _ => none
section
variable {X : Cx} {c : XC} {K : PySem.W.Frag} {W : Wd}
theorem RVs.atI {xs : List MV} {vs : List V} {i : Int} {x : MV} (t : RVs K W xs vs) (e : L2.atI xs i = some x) : ∃ v, L2.atI vs i = some v ∧ RV K W x v := by
  unfold L2.atI at e ⊢
  rw [← t.length]
  cases h : ixN xs.length i with
  | none =>
    rw [h] at e
    cases e
  | some j =>
    rw [h] at e
    exact t.get e
theorem opm_ix : OpM K c (rIx K) ixF := fun W h x y u v Q S r1 r2 p => by
  unfold ixF at p
  cases y with
  | int i =>
    have go : ∀ x : MV, RV K W x u → Pst K c (CV K Q) W (match seqOf h x with | some xs => (match L2.atI xs i with | some z => ok z h | none => none) | none => none) → rIx K u v W.H Q := fun x r1 p => by
      cases e : seqOf h x with
      | none =>
        rw [e] at p
        exact p.elim
      | some xs =>
        rw [e] at p
        have p' : Pst K c (CV K Q) W (match L2.atI xs i with | some z => ok z h | none => none) := p
        cases e2 : L2.atI xs i with
        | none =>
          rw [e2] at p'
          exact p'.elim
        | some z =>
          rw [e2] at p'
          obtain ⟨a, vs, q1, q2, t⟩ := seq_sq S r1 e
          obtain ⟨w, q3, q4⟩ := t.atI e2
          rcases q2 with q2 | q2
          · exact .inl ⟨a, vs, i, w, q1, rv_int r2, q2, q3, Pst.now p' S _ q4⟩
          · exact .inr (.inl ⟨a, vs, i, w, q1, rv_int r2, q2, q3, Pst.now p' S _ q4⟩)
    cases x with
    | str z =>
      have p' : Pst K c (CV K Q) W (if z.length ≤ lim then (match L2.atI z.cps.toList i with | some q => ok (.str ⟨#[q]⟩) h | none => none) else none) := p
      by_cases q : z.length ≤ lim
      · rw [if_pos q] at p'
        cases e : L2.atI z.cps.toList i with
        | none =>
          rw [e] at p'
          exact p'.elim
        | some w =>
          rw [e] at p'
          exact .inr (.inr ⟨z, i, w, rv_str r1, rv_int r2, lim_line q, e, Pst.now p' S _ (.str _)⟩)
      · rw [if_neg q] at p'
        exact p'.elim
    | _ => exact go _ r1 p
  | _ => exact p.elim
end
end Mi
set_option maxHeartbeats 2000000
namespace Mi
open PySem L2
@[simp ↓] def boolF (x : MV) (h : MH) : Res Bool := match x with
  | .bl b => ok b h
  | _ => none
@[simp ↓] def tstM (m : ME) : MM Bool := fun s h => (m s h).bnd boolF
@[simp ↓] def truF (x : MV) (h : MH) : Res Bool := match x with
  | .non => ok false h
  | .bl b => ok b h
  | .int i => ok (i != 0) h
  | .str z => if z.length ≤ lim then ok ((z.length : Int) != 0) h else none
  | .ref l => match h[l]? with
    | some (.lst xs) => ok (!xs.isEmpty) h
    | some (.dK kvs) => ok (!kvs.isEmpty) h
    | _ => none
  | .tup xs => ok (!xs.isEmpty) h
  | .ktp _ => none
  | .fls xs => ok (!xs.isEmpty) h
  | .frz xs => ok (!xs.isEmpty) h
  | .exc .. => none
  | .fdt .. => none
@[simp ↓] def truM (m : ME) : MM Bool := fun s h => (m s h).bnd truF
@[simp ↓] def andT (a b : MM Bool) : MM Bool := fun s h => (a s h).bnd fun p h1 => if p = true then b s h1 else ok false h1
@[simp ↓] def orT (a b : MM Bool) : MM Bool := fun s h => (a s h).bnd fun p h1 => if p = true then ok true h1 else b s h1
@[simp ↓] def notT (a : MM Bool) : MM Bool := fun s h => (a s h).bnd fun p h1 => ok (!p) h1
@[simp ↓] def yesT : MM Bool := fun _ h => ok true h
@[simp ↓] def andV (a b : ME) : ME := fun s h => (a s h).bnd fun x h1 => (boolF x h1).bnd fun p h2 => if p = true then b s h2 else ok (.bl false) h2
@[simp ↓] def orV (a b : ME) : ME := fun s h => (a s h).bnd fun x h1 => (boolF x h1).bnd fun p h2 => if p = true then ok (.bl true) h2 else b s h2
@[simp ↓] def notV (a : ME) : ME := fun s h => (a s h).bnd fun x h1 => (truF x h1).bnd fun p h2 => ok (.bl (!p)) h2
@[simp ↓] def ifM (t : MM Bool) (a b : ME) : ME := fun s h => (t s h).bnd fun p h1 => if p = true then a s h1 else b s h1
@[simp ↓] def chainM (f g : MV → MV → MH → Res MV) (a b d : ME) : ME := fun s h => (a s h).bnd fun x h1 => (b s h1).bnd fun y h2 => (f x y h2).bnd fun z h3 => (boolF z h3).bnd fun p h4 =>
  if p = true then (d s h4).bnd fun w h5 => g y w h5 else ok (.bl false) h4
abbrev WM (X : Cx) (c : XC) (e : Expr) (m : MM Bool) : Prop := PW X e (tMB X.K c m)
section
variable {X : Cx} {c : XC} {e a b d : Expr} {rest : List Expr} {pos : Pos} {K : PySem.W.Frag} {W : Wd}
theorem boolF_ok {C : Wd → Bool → Prop} {x : MV} {v : V} {h : MH} (S : Sim K W h) (r : RV K W x v) (p : Pst K c C W (boolF x h)) : ∃ b, x = .bl b ∧ v = .bl b ∧ C W b := by
  cases x <;> first | exact p.elim | skip
  rename_i b
  exact ⟨b, rfl, rv_bl r, Pst.now p S⟩
theorem bm_cmp {op : CmpOp} {r : R2} {f : MV → MV → MH → Res MV} {ma mb : ME} (hr : OpR X (compareOp op) r) (ho : OpM X.K c r f) (ha : EM X c a ma) (hb : EM X c b mb) (hm : behindInMarks op b = false) : BM X c (.Compare a [op] [b] pos) (tstM (opM f ma mb)) :=
  pt_wk (pt_cmpR hr ha hb hm) fun σ H Q ⟨W, h, s, e, S, rs, p⟩ => by
    subst e
    refine tOp_of ho ⟨W, h, s, rfl, S, rs, p.bnd fun W1 h1 x x1 S1 p1 v r1 => ?_⟩
    obtain ⟨k, _, e2, q⟩ := boolF_ok S1 r1 p1
    exact ⟨k, e2, q⟩
theorem tru_V {x : MV} {v : V} {h : MH} {C : Wd → Bool → Prop} (S : Sim K W h) (r : RV K W x v) (p : Pst K c C W (truF x h)) : ∃ k, TruV K v W.H k ∧ C W k := by
  cases x with
  | non =>
    cases r
    exact ⟨false, rfl, Pst.now p S⟩
  | bl b =>
    cases r
    exact ⟨b, rfl, Pst.now p S⟩
  | int i =>
    cases r
    exact ⟨_, rfl, Pst.now p S⟩
  | str z =>
    cases r
    have p' : Pst K c C W (if z.length ≤ lim then ok ((z.length : Int) != 0) h else none) := p
    by_cases q : z.length ≤ lim
    · rw [if_pos q] at p'
      exact ⟨_, ⟨lim_line q, rfl⟩, Pst.now p' S⟩
    · rw [if_neg q] at p'
      exact p'.elim
  | tup xs =>
    obtain ⟨q, vs, rfl, hq, t⟩ := tup_sq r
    exact ⟨!vs.isEmpty, .inr (.inl ⟨vs, hq, rfl⟩), by rw [← t.nil_iff]; exact Pst.now p S⟩
  | ktp xs => exact p.elim
  | exc => exact p.elim
  | fdt => exact p.elim
  | fls xs =>
    obtain ⟨q, vs, rfl, hq, t⟩ := lst_sq (h := h) S r rfl
    exact ⟨!vs.isEmpty, .inl ⟨vs, hq, rfl⟩, by rw [← t.nil_iff]; exact Pst.now p S⟩
  | frz xs =>
    obtain ⟨q, vs, rfl, hq, t⟩ := lst_sq (h := h) S r rfl
    exact ⟨!vs.isEmpty, .inl ⟨vs, hq, rfl⟩, by rw [← t.nil_iff]; exact Pst.now p S⟩
  | ref l =>
    have p' : Pst K c C W (match h[l]? with | some (.lst xs) => ok (!xs.isEmpty) h | some (.dK kvs) => ok (!kvs.isEmpty) h | _ => none) := p
    cases hl : h[l]? with
    | none =>
      rw [hl] at p'
      exact p'.elim
    | some o =>
      rw [hl] at p'
      cases o with
      | dead => exact p'.elim
      | lst xs =>
        obtain ⟨q, vs, rfl, e1, hq, t⟩ := S.lstAt hl r
        exact ⟨!vs.isEmpty, .inl ⟨vs, .inl (.inl hq), rfl⟩, by rw [← t.nil_iff]; exact Pst.now p' S⟩
      | dK kvs =>
        obtain ⟨q, rfl, e1, kws, hq, t⟩ := S.at hl (by intro z; cases z) r
        refine ⟨!kws.isEmpty, .inr (.inr ⟨kws, hq, rfl⟩), ?_⟩
        have en : kws.isEmpty = kvs.isEmpty := by cases t <;> rfl
        rw [en]
        exact Pst.now p' S
      | dT kvs => exact p'.elim
      | ins cn kvs => exact p'.elim
theorem bm_truth {ma : ME} (ha : EM X c a ma) (he : ∀ whole, isTrue a X.env whole = (do let v ← whole; standAt a.pos; holding [v] (truthy v))) : BM X c a (truM ma) :=
  pt_wk (pt_truth ha he) fun σ H Q ⟨W, h, s, e, S, rs, p⟩ => by
    subst e
    refine ⟨W, h, s, rfl, S, rs, p.bnd fun W1 h1 x x1 S1 p1 v r1 => ?_⟩
    exact tru_V S1 r1 p1
theorem wm_and1 {m : MM Bool} (ha : BM X c a m) : WM X c (.BoolOp .And [a] pos) m := pw_and1 ha
theorem wm_or1 {m : MM Bool} (ha : BM X c a m) : WM X c (.BoolOp .Or [a] pos) m := pw_or1 ha
theorem tAnd_of {m n : MM Bool} {σ : St} {H : Hp} {Q : Bool → Hp → Prop} (q : tMB K c (andT m n) σ H Q) : tAnd (tMB K c m) (tMB K c n) σ H Q := by
  obtain ⟨W, h, s, e, S, rs, p⟩ := q
  subst e
  refine ⟨W, h, s, rfl, S, rs, p.bnd fun W1 h1 k x1 S1 p1 => ?_⟩
  cases k with
  | true => exact ⟨W1, h1, s, rfl, S1, rs.mono x1, p1⟩
  | false => exact p1 W1 (Ext.refl _) S1
theorem tOr_of {m n : MM Bool} {σ : St} {H : Hp} {Q : Bool → Hp → Prop} (q : tMB K c (orT m n) σ H Q) : tOr (tMB K c m) (tMB K c n) σ H Q := by
  obtain ⟨W, h, s, e, S, rs, p⟩ := q
  subst e
  refine ⟨W, h, s, rfl, S, rs, p.bnd fun W1 h1 k x1 S1 p1 => ?_⟩
  cases k with
  | false => exact ⟨W1, h1, s, rfl, S1, rs.mono x1, p1⟩
  | true => exact p1 W1 (Ext.refl _) S1
theorem wm_and {m n : MM Bool} (ha : BM X c a m) (hb : WM X c (.BoolOp .And (b :: rest) pos) n) : WM X c (.BoolOp .And (a :: b :: rest) pos) (andT m n) := pw_wk (pw_and ha hb) fun σ H Q q => tAnd_of q
theorem wm_or {m n : MM Bool} (ha : BM X c a m) (hb : WM X c (.BoolOp .Or (b :: rest) pos) n) : WM X c (.BoolOp .Or (a :: b :: rest) pos) (orT m n) := pw_wk (pw_or ha hb) fun σ H Q q => tOr_of q
theorem bm_w {m : MM Bool} (h : WM X c e m) : BM X c e m := h.pt
theorem bm_not {m : MM Bool} (ha : BM X c a m) : BM X c (.UnaryOp .Not a pos) (notT m) := pt_wk (pt_not ha) fun σ H Q ⟨W, h, s, e, S, rs, p⟩ => by
  subst e
  exact ⟨W, h, s, rfl, S, rs, p.bnd fun W1 h1 k x1 S1 p1 => p1 W1 (Ext.refl _) S1⟩
theorem em_one {op} {m : ME} (h : EM X c a m) : EM X c (.BoolOp op [a] pos) m := pe_one h
theorem em_and {ma mb : ME} (ha : EM X c a ma) (hb : EM X c (.BoolOp .And (b :: rest) pos) mb) : EM X c (.BoolOp .And (a :: b :: rest) pos) (andV ma mb) := pe_wk (pe_and ha hb) fun σ H Q ⟨W, h, s, e, S, rs, p⟩ => by
  subst e
  refine ⟨W, h, s, rfl, S, rs, p.bnd fun W1 h1 x x1 S1 p1 v r1 => ?_⟩
  obtain ⟨k, _, e2, q⟩ := boolF_ok (C := fun W k => if k = true then tM X.K c mb σ W.H Q else Q (.bl false) W.H) S1 r1 (p1.bnd fun W2 h2 k x2 S2 p2 => by
    cases k with
    | true =>
      rw [if_pos rfl] at p2 ⊢
      exact ⟨W2, h2, s, rfl, S2, (rs.mono x1).mono x2, p2⟩
    | false =>
      rw [if_neg Bool.false_ne_true] at p2 ⊢
      exact Pst.now p2 S2 _ (.bl _))
  exact ⟨k, e2, q⟩
theorem em_or {ma mb : ME} (ha : EM X c a ma) (hb : EM X c (.BoolOp .Or (b :: rest) pos) mb) : EM X c (.BoolOp .Or (a :: b :: rest) pos) (orV ma mb) := pe_wk (pe_or ha hb) fun σ H Q ⟨W, h, s, e, S, rs, p⟩ => by
  subst e
  refine ⟨W, h, s, rfl, S, rs, p.bnd fun W1 h1 x x1 S1 p1 v r1 => ?_⟩
  obtain ⟨k, _, e2, q⟩ := boolF_ok (C := fun W k => if k = true then Q (.bl true) W.H else tM X.K c mb σ W.H Q) S1 r1 (p1.bnd fun W2 h2 k x2 S2 p2 => by
    cases k with
    | false =>
      rw [if_neg Bool.false_ne_true] at p2 ⊢
      exact ⟨W2, h2, s, rfl, S2, (rs.mono x1).mono x2, p2⟩
    | true =>
      rw [if_pos rfl] at p2 ⊢
      exact Pst.now p2 S2 _ (.bl _))
  exact ⟨k, e2, q⟩
theorem em_not {m : ME} (ha : EM X c a m) : EM X c (.UnaryOp .Not a pos) (notV m) := pe_wk (pe_notT ha) fun σ H Q ⟨W, h, s, e, S, rs, p⟩ => by
  subst e
  refine ⟨W, h, s, rfl, S, rs, p.bnd fun W1 h1 x x1 S1 p1 v r1 => ?_⟩
  exact tru_V S1 r1 (p1.bnd fun W2 h2 k x2 S2 p2 => Pst.now p2 S2 _ (.bl _))
end
@[simp ↓] def bndS {α : Type} (r : Res α) (k : α → MH → Option OutS) : Option OutS := match r with
  | none => none
  | some (.ok a h) => k a h
  | some (.ex e h) => some (.ex e h)
theorem bndS_ok {α : Type} {a : α} {h : MH} {k : α → MH → Option OutS} : bndS (ok a h) k = k a h := rfl
def PstS (K : PySem.W.Frag) (c : XC) (D : Ends) (W : Wd) (r : Option OutS) : Prop := match r with
  | none => False
  | some (.nx s h) => ∀ W' σ, Ext W W' → Sim K W' h → RS K W' s σ → D.nx σ W'.H
  | some (.ret x h) => ∀ W' v, Ext W W' → Sim K W' h → RV K W' x v → D.rt v W'.H
  | some (.brk s h) => ∀ W' σ, Ext W W' → Sim K W' h → RS K W' s σ → D.bk σ W'.H
  | some (.cnt s h) => ∀ W' σ, Ext W W' → Sim K W' h → RS K W' s σ → D.ct σ W'.H
  | some (.ex e h) => PX K c W e h
def tS (K : PySem.W.Frag) (c : XC) (m : MT) : TS := fun D σ H => ∃ W h s, W.H = H ∧ Sim K W h ∧ RS K W s σ ∧ PstS K c D W (m s h)
abbrev SM (X : Cx) (c : XC) (st : Stmt) (m : MT) : Prop := PS X st (tS X.K c m)
abbrev SsM (X : Cx) (c : XC) (sts : List Stmt) (m : MT) : Prop := PSs X sts (tS X.K c m)
theorem ps_wk {X : Cx} {st : Stmt} {t t' : TS} (h : PS X st t) (w : ∀ D σ H, t' D σ H → t D σ H) : PS X st t' := ⟨fun pins s σ H D I q => h.run pins s σ H D I (w _ _ _ q)⟩
theorem pss_wk {X : Cx} {st : List Stmt} {t t' : TS} (h : PSs X st t) (w : ∀ D σ H, t' D σ H → t D σ H) : PSs X st t' := ⟨fun pins s σ H D I q => h.run pins s σ H D I (w _ _ _ q)⟩
section
variable {K : PySem.W.Frag} {c : XC} {α : Type} {D : Ends} {W W' : Wd}
theorem PstS.shift {r : Option OutS} (x : Ext W W') (p : PstS K c D W r) : PstS K c D W' r := by
  match r, p with
  | some (.nx s h), p => exact fun W2 σ x2 S rs => p W2 σ (x.trans x2) S rs
  | some (.ret s h), p => exact fun W2 σ x2 S rs => p W2 σ (x.trans x2) S rs
  | some (.brk s h), p => exact fun W2 σ x2 S rs => p W2 σ (x.trans x2) S rs
  | some (.cnt s h), p => exact fun W2 σ x2 S rs => p W2 σ (x.trans x2) S rs
  | some (.ex e h), p => exact PX.shift x p
theorem PstS.bnd {C : Wd → α → Prop} {r : Res α} {k : α → MH → Option OutS} (p : PstS K c D W (bndS r k))
    (i : ∀ W1 h1 a, Ext W W1 → Sim K W1 h1 → PstS K c D W1 (k a h1) → C W1 a) : Pst K c C W r := by
  match r, p with
  | some (.ok a h), p => exact fun W2 x2 s => i W2 h a x2 s (PstS.shift x2 p)
  | some (.ex e h), p => exact p
end
@[simp ↓] def nilS : MT := fun s h => some (.nx s h)
@[simp ↓] def seqS (a b : MT) : MT := fun s h => match a s h with
  | some (.nx s1 h1) => b s1 h1
  | r => r
@[simp ↓] def setS (i : Nat) (m : ME) : MT := fun s h => bndS (m s h) fun x h1 => some (.nx (s.set i (some x)) h1)
@[simp ↓] def dropS (m : ME) : MT := fun s h => bndS (m s h) fun _ h1 => some (.nx s h1)
@[simp ↓] def retS (m : ME) : MT := fun s h => bndS (m s h) fun x h1 => some (.ret x h1)
@[simp ↓] def retnS : MT := fun _ h => some (.ret .non h)
@[simp ↓] def ifS (t : MM Bool) (a b : MT) : MT := fun s h => bndS (t s h) fun p h1 => if p = true then a s h1 else b s h1
@[simp ↓] def brkS : MT := fun s h => some (.brk s h)
@[simp ↓] def cntS : MT := fun s h => some (.cnt s h)
@[simp ↓] def putAll : List Nat → List MV → MS → Option MS
  | [], [], s => some s
  | i :: is, x :: xs, s => putAll is xs (s.set i (some x))
  | _, _, _ => none
@[simp ↓] def unp (is : List Nat) (x : MV) (s : MS) : Option MS := match x with
  | .tup xs => putAll is xs s
  | _ => none
@[simp ↓] def one (i : Nat) (x : MV) (s : MS) : Option MS := some (s.set i (some x))
@[simp ↓] def asgS (g : MV → MS → Option MS) (m : ME) : MT := fun s h => bndS (m s h) fun x h1 => match g x s with
  | some s1 => some (.nx s1 h1)
  | none => none
@[simp ↓] def wrF (l : Nat) (i : Int) (x : MV) (h : MH) : Option MH := match h[l]? with
  | some (.lst xs) => match ixN xs.length i with
    | some j => some (h.set l (.lst (xs.set j x)))
    | none => none
  | _ => none
@[simp ↓] def subS (m o i : ME) : MT := fun s h => bndS (m s h) fun x h1 => bndS (o s h1) fun y h2 => bndS (i s h2) fun z h3 => match y, z with
  | .ref l, .int j => match wrF l j x h3 with
    | some h4 => some (.nx s h4)
    | none => none
  | _, _ => none
@[simp ↓] def augS (i : Nat) (f : Int → Int → Int) (m : ME) : MT := fun s h => match slot s i with
  | some (.int a) => bndS (m s h) fun y h1 => match y with
    | .int b => some (.nx (s.set i (some (.int (f a b)))) h1)
    | _ => none
  | _ => none
section
variable {X : Cx} {c : XC} {e a b o : Expr} {pos : Pos} {K : PySem.W.Frag} {st : Stmt} {rest sts : List Stmt}
theorem ss_nil : SsM X c [] nilS := pss_wk pss_nil fun D σ H ⟨W, h, s, e, S, rs, p⟩ => by
  subst e
  exact p W σ (Ext.refl W) S rs
theorem ss_cons {m n : MT} (h1 : SM X c st m) (h2 : SsM X c rest n) : SsM X c (st :: rest) (seqS m n) := pss_wk (pss_cons h1 h2) fun D σ H ⟨W, h, s, e, S, rs, p⟩ => by
  subst e
  refine ⟨W, h, s, rfl, S, rs, ?_⟩
  unfold seqS at p
  cases q : m s h with
  | none =>
    rw [q] at p
    exact p.elim
  | some r =>
    rw [q] at p
    cases r with
    | nx s1 h1 => exact fun W1 σ1 x1 S1 rs1 => ⟨W1, h1, s1, rfl, S1, rs1, PstS.shift x1 p⟩
    | ret x h1 => exact p
    | brk s1 h1 => exact p
    | cnt s1 h1 => exact p
    | ex x h1 => exact p
theorem ss_one {m : MT} (h : SM X c st m) : SsM X c [st] m := pss_one h
theorem s_ret {m : ME} (he : EM X c e m) : SM X c (.Return (some e) pos) (retS m) := ps_wk (ps_ret he) fun D σ H ⟨W, h, s, e, S, rs, p⟩ => by
  subst e
  exact ⟨W, h, s, rfl, S, rs, p.bnd fun W1 h1 x x1 S1 p1 v r1 => p1 W1 v (Ext.refl _) S1 r1⟩
theorem s_if {t : Expr} {mt : MM Bool} {ma mb : MT} {aa bb : List Stmt} (ht : BM X c t mt) (ha : SsM X c aa ma) (hb : SsM X c bb mb) : SM X c (.If t aa bb pos) (ifS mt ma mb) := ps_wk (ps_if ht ha hb) fun D σ H ⟨W, h, s, e, S, rs, p⟩ => by
  subst e
  refine ⟨W, h, s, rfl, S, rs, p.bnd fun W1 h1 k x1 S1 p1 => ?_⟩
  cases k with
  | true => exact ⟨W1, h1, s, rfl, S1, rs.mono x1, p1⟩
  | false => exact ⟨W1, h1, s, rfl, S1, rs.mono x1, p1⟩
theorem s_set {i : Nat} {x : Str} {m : ME} {pos' : Pos} (hN : X.N.Nodup) (hi : X.N[i]? = some x) (hx : Loc X.env.scope x) (he : EM X c e m) (hs : swapsWith e (some (.Name x pos')) pos.line X.env = pure false := by rfl) (hf : X.fn x = true ∨ X.env.scope.names.lookup x = some .local := by first | exact .inl rfl | exact .inr rfl | assumption) :
    SM X c (.Assign [.Name x pos'] e pos) (setS i m) := ps_wk (ps_set hN hi hx he hs hf) fun D σ H ⟨W, h, s, e, S, rs, p⟩ => by
  subst e
  exact ⟨W, h, s, rfl, S, rs, p.bnd fun W1 h1 y x1 S1 p1 v r1 => p1 W1 _ (Ext.refl _) S1 ((rs.mono x1).set r1 i)⟩
def TgM (K : PySem.W.Frag) (t : TG) (g : MV → MS → Option MS) : Prop := ∀ (W : Wd) (s s' : MS) (σ : St) (x : MV) (v : V) (Q : St → Hp → Prop), RS K W s σ → RV K W x v → g x s = some s' → (∀ σ', RS K W s' σ' → Q σ' W.H) → t v σ W.H Q
theorem tg_one (i : Nat) : TgM K (gName i) (one i) := fun W s s' σ x v Q rs r e q => by
  cases e
  exact q _ (rs.set r i)
def gNames : List Nat → TGs
  | [] => gNil
  | i :: is => gCons (gName i) (gNames is)
theorem tg_all : ∀ (is : List Nat) (W : Wd) (s s' : MS) (σ : St) (xs : List MV) (vs : List V) (Q : St → Hp → Prop), RS K W s σ → RVs K W xs vs → putAll is xs s = some s' → (∀ σ', RS K W s' σ' → Q σ' W.H) → gNames is vs σ W.H Q
  | [], W, s, s', σ, [], _, Q, rs, .nil, e, q => by
    cases e
    exact ⟨rfl, q σ rs⟩
  | i :: is, W, s, s', σ, x :: xs, _, Q, rs, .cons r t, e, q => ⟨_, _, rfl, tg_all is W _ s' _ xs _ Q (rs.set r i) t e q⟩
  | [], _, _, _, _, _ :: _, _, _, _, _, e, _ => by cases e
  | _ :: _, _, _, _, _, [], _, _, _, _, e, _ => by cases e
theorem putAll_len : ∀ {is : List Nat} {xs : List MV} {s s' : MS}, putAll is xs s = some s' → xs.length = is.length
  | [], [], _, _, _ => rfl
  | i :: is, x :: xs, s, s', e => by
    rw [List.length_cons, List.length_cons, putAll_len (show putAll is xs (s.set i (some x)) = some s' from e)]
  | [], _ :: _, _, _, e => by cases e
  | _ :: _, [], _, _, e => by cases e
theorem tg_tup (is : List Nat) : TgM K (gTup K is.length (gNames is)) (unp is) := fun W s s' σ x v Q rs r e q => by
  cases x <;> first | (cases e; done) | skip
  rename_i xs
  obtain ⟨a, vs, rfl, hq, t⟩ := tup_sq r
  exact ⟨a, vs, rfl, hq, by rw [← t.length]; exact putAll_len e, tg_all is W s s' σ xs vs Q rs t e q⟩
theorem wrF_ok {W : Wd} {h h' : MH} {l : Nat} {j : Int} {x : MV} {u v : V} {Q : Hp → Prop} (S : Sim K W h) (r : RV K W (.ref l) u) (rx : RV K W x v) (e : wrF l j x h = some h') (q : ∀ W', Ext W W' → Sim K W' h' → Q W'.H) : rSetL u (.int j) v W.H Q := by
  unfold wrF at e
  cases hl : h[l]? with
  | none =>
    rw [hl] at e
    cases e
  | some m =>
    rw [hl] at e
    cases m with
    | lst xs =>
      have e' : (match ixN xs.length j with | some j => some (h.set l (MO.lst (xs.set j x))) | none => none) = some h' := e
      cases hi : ixN xs.length j with
      | none =>
        rw [hi] at e'
        cases e'
      | some k =>
        rw [hi] at e'
        cases e'
        obtain ⟨p, vs, rfl, e1, e2, t⟩ := S.lstAt hl r
        refine ⟨p, vs, j, k, rfl, rfl, e2, by rw [← t.length]; exact hi, ?_⟩
        exact q (W.wr p (.lst (vs.set k v))) (Ext.wr S e1) (S.wr e1 ⟨_, upd_same, (t.set rx k).mono (Ext.wr S e1)⟩)
    | dead => cases e
    | dK kvs => cases e
    | dT kvs => cases e
    | ins cn kvs => cases e
theorem s_sub {m mo mi : ME} {i : Expr} {p' : Pos} (he : EM X c e m) (ho : EM X c o mo) (hi : EM X c i mi) (ha : ∀ v, assign (.Subscript o i p') X.env v = (do let o1 ← holding [v] (eval o X.env); let i1 ← holding [v, o1] (eval i X.env); standAt p'; holding [v, o1, i1] (setItem o1 i1 v); release [v, o1, i1] []) := by intro _; rfl) (hs : swapsWithSole [.Subscript o i p'] e pos.line X.env = pure false := by rfl) (hw : swappedStores [.Subscript o i p'] e X.env = pure none := by rfl)
    (h1 : (assignEach [.Subscript o i p'] X.env).map (·.2) = [assign (.Subscript o i p') X.env] := by rfl) : SM X c (.Assign [.Subscript o i p'] e pos) (subS m mo mi) := ps_wk (ps_asg he (pg_sub ho hi set_list ha) hs hw h1) fun D σ H ⟨W, h, s, e, S, rs, p⟩ => by
  subst e
  refine ⟨W, h, s, rfl, S, rs, p.bnd fun W1 h1 y x1 S1 p1 v r1 => ?_⟩
  refine ⟨W1, h1, s, rfl, S1, rs.mono x1, p1.bnd fun W2 h2 y2 x2 S2 p2 v2 r2 => ?_⟩
  refine ⟨W2, h2, s, rfl, S2, (rs.mono x1).mono x2, p2.bnd fun W3 h3 y3 x3 S3 p3 v3 r3 => ?_⟩
  cases y2 <;> first | exact p3.elim | skip
  cases y3 <;> first | exact p3.elim | skip
  rename_i l j
  cases q : wrF l j y h3 with
  | none =>
    simp only [q] at p3
    exact p3.elim
  | some h4 =>
    simp only [q] at p3
    rw [rv_int r3]
    exact wrF_ok S3 (r2.mono x3) ((r1.mono x2).mono x3) q fun W4 x4 S4 => p3 W4 σ x4 S4 (((rs.mono x1).mono x2).mono (x3.trans x4))
end
end Mi
set_option maxHeartbeats 2000000
namespace Mi
open PySem L2
inductive MIter where
  | st (its : List MV) | dyn (l n : Nat) | enm (l n : Nat)
def JR (K : PySem.W.Frag) (W : Wd) (it : MIter) (J : It) : Prop := match it with
  | .st its => ∀ (i : Nat) (W' : Wd) (h : MH), Ext W W' → Sim K W' h →
      (∀ x, its[i]? = some x → J.go i W'.H ∧ ∀ v H2, J.yld i W'.H v H2 → ∃ W2, W2.H = H2 ∧ Ext W' W2 ∧ Sim K W2 h ∧ RV K W2 x v) ∧ (its.length ≤ i → J.stop i W'.H)
  | .dyn l _ => ∃ a, W.f l = some a ∧ J = Itl K a
  | .enm l _ => ∃ a, W.f l = some a ∧ J = Ite K a
def CI (K : PySem.W.Frag) (R : It → Hp → Prop) (W : Wd) (it : MIter) : Prop := ∀ J, JR K W it J → R J W.H
abbrev tMI (K : PySem.W.Frag) (c : XC) (m : MM MIter) : TI := tG K c (CI K) m
abbrev IM (X : Cx) (c : XC) (tg e : Expr) (m : MM MIter) : Prop := PI X tg e (tMI X.K c m)
theorem pi_wk {X : Cx} {tg e : Expr} {t t' : TI} (h : PI X tg e t) (w : ∀ σ H R, t' σ H R → t σ H R) : PI X tg e t' := ⟨fun pins s σ H R I q => h.run pins s σ H R I (w _ _ _ q)⟩
@[simp ↓] def seqI (m : ME) : MM MIter := fun s h => (m s h).bnd fun x h1 => match x with
  | .tup xs => ok (.st xs) h1
  | .ktp xs => ok (.st xs) h1
  | .fls xs => ok (.st xs) h1
  | .frz xs => ok (.st xs) h1
  | .ref l => match h1[l]? with
    | some (.lst xs) => ok (.dyn l (xs.length + 1)) h1
    | _ => none
  | _ => none
def runOf (a : Int) (n : Nat) : List MV := (List.range n).map fun (i : Nat) => MV.int (a + (i : Int))
@[simp ↓] def rng1F (xs : List MV) (h : MH) : Res MIter := match xs with
  | [.int n] => if n ≤ 1000000 ∧ -1000000 ≤ n then ok (.st (runOf 0 n.toNat)) h else none
  | _ => none
@[simp ↓] def rng2F (xs : List MV) (h : MH) : Res MIter := match xs with
  | [.int a, .int b] => if (a ≤ 1000000 ∧ -1000000 ≤ a) ∧ (b ≤ 1000000 ∧ -1000000 ≤ b) then ok (.st (runOf a (b - a).toNat)) h else none
  | _ => none
@[simp ↓] def rng1 (m : MM (List MV)) : MM MIter := fun s h => (m s h).bnd rng1F
@[simp ↓] def rng2 (m : MM (List MV)) : MM MIter := fun s h => (m s h).bnd rng2F
section
variable {X : Cx} {c : XC} {tg e a b : Expr} {K : PySem.W.Frag} {W : Wd}
def iSeq (K : PySem.W.Frag) (tl : TE) : TI := fun σ H R => tl σ H fun x H1 => (∃ a, x = .ref a ∧ (∃ xs, SqL K H1 a xs) ∧ R (Itl K a) H1) ∨ ∃ a, x = .ref a ∧ (∃ xs, SqT K H1 a xs) ∧ R (Itt K a) H1
theorem pi_seq {tl : TE} (hl : PE X e tl) : PI X tg e (iSeq X.K tl) := by
  refine ⟨fun pins s σ H R I h => thn (hl.run pins s σ H _ I h) fun v s1 ⟨x, H1, I1, r1, q1⟩ => ?_⟩
  have at1 : ∀ b ∈ [s1.heap.objs.size], FpOk X pins H1 b := fun b hb => by
    obtain rfl : b = s1.heap.objs.size := by simpa using hb
    exact I1.fpOk (Nat.le_refl _) (I1.hok.fresh (Nat.le_refl _))
  rcases q1 with ⟨a, e, ⟨xs, hq⟩, q⟩ | ⟨a, e, ⟨xs, hq⟩, q⟩
  · subst e
    cases r1
    obtain ⟨its, rv, p, hz⟩ := I1.list hq
    exact wpAny_pyIter_list p.isList ⟨s1.heap.objs.size, [s1.heap.objs.size], _, _, H1, rfl, I1.kept (t' := s1.toks) (fun b o z => Heap.get?_push_of_some _ z),
      turn_list a _, ⟨_, Heap.get?_push_size _ rfl, rfl, rfl⟩, at1, q⟩
  · subst e
    cases r1
    obtain ⟨its, rv, p, hz⟩ := I1.tuple hq
    exact wpAny_pyIter_tuple (show s1.heap.IsTuple a its.toArray from p) ⟨s1.heap.objs.size, [s1.heap.objs.size], _, _, H1, rfl, I1.kept (t' := s1.toks) (fun b o z => Heap.get?_push_of_some _ z),
      turn_tuple a _, ⟨_, Heap.get?_push_size _ rfl, rfl, rfl⟩, at1, q⟩
theorem jr_lst {x : MV} {u : V} {xs : List MV} {h : MH} (S : Sim K W h) (r : RV K W x u) (hx : x = .fls xs ∨ x = .frz xs) : ∃ a, u = .ref a ∧ (∃ vs, SqL K W.H a vs) ∧ JR K W (.st xs) (Itl K a) := by
  have go : ∀ (W' : Wd), Ext W W' → ∀ h', Sim K W' h' → ∃ a vs, u = .ref a ∧ SqL K W'.H a vs ∧ RVs K W' xs vs := fun W' x' h' S' => by
    have r' := r.mono x'
    rcases hx with e | e <;> subst e
    · obtain ⟨p, vs, e1, e2, t⟩ := lst_sq (h := h') S' r' rfl
      exact ⟨p, vs, e1, e2, t⟩
    · obtain ⟨p, vs, e1, e2, t⟩ := lst_sq (h := h') S' r' rfl
      exact ⟨p, vs, e1, e2, t⟩
  obtain ⟨a, vs, e1, e2, t⟩ := go W (Ext.refl W) h S
  refine ⟨a, e1, ⟨vs, e2⟩, fun i W' h' x' S' => ?_⟩
  obtain ⟨a', ws, e1', e2', t'⟩ := go W' x' h' S'
  rw [e1] at e1'
  cases e1'
  refine ⟨fun y hy => ?_, fun hi => ⟨ws, e2', by rw [← t'.length]; exact hi⟩⟩
  obtain ⟨v, hv, rv⟩ := t'.get hy
  refine ⟨⟨ws, v, e2', hv⟩, fun v2 H2 ⟨eh, y2⟩ => ⟨W', eh.symm, Ext.refl _, S', ?_⟩⟩
  have := y2 ws e2'
  rw [hv] at this
  cases this
  exact rv
theorem jr_tup {u : V} {x : MV} {xs : List MV} {h : MH} (S : Sim K W h) (r : RV K W x u) (hx : x = .tup xs ∨ x = .ktp xs) : ∃ a, u = .ref a ∧ (∃ vs, SqT K W.H a vs) ∧ JR K W (.st xs) (Itt K a) := by
  have sq : ∀ {W' : Wd}, RV K W' x u → ∃ p vs, u = .ref p ∧ SqT K W'.H p vs ∧ RVs K W' xs vs := fun r => by
    rcases hx with e | e <;> subst e
    · exact tup_sq r
    · exact ktp_sq r
  obtain ⟨a, vs, e1, e2, t⟩ := sq r
  refine ⟨a, e1, ⟨vs, e2⟩, fun i W' h' x' S' => ?_⟩
  obtain ⟨a', ws, e1', e2', t'⟩ := sq (r.mono x')
  rw [e1] at e1'
  cases e1'
  refine ⟨fun y hy => ?_, fun hi => ⟨ws, e2', by rw [← t'.length]; exact hi⟩⟩
  obtain ⟨v, hv, rv⟩ := t'.get hy
  refine ⟨⟨ws, v, e2', hv⟩, fun v2 H2 ⟨eh, y2⟩ => ⟨W', eh.symm, Ext.refl _, S', ?_⟩⟩
  have := y2 ws e2'
  rw [hv] at this
  cases this
  exact rv
theorem im_seq {m : ME} (he : EM X c e m) : IM X c tg e (seqI m) := pi_wk (pi_seq he) fun σ H R ⟨W, h, s, e, S, rs, p⟩ => by
  subst e
  refine ⟨W, h, s, rfl, S, rs, p.bnd fun W1 h1 x x1 S1 p1 v r1 => ?_⟩
  cases x with
  | tup xs =>
    obtain ⟨a, e1, e2, j⟩ := jr_tup S1 r1 (.inl rfl)
    exact .inr ⟨a, e1, e2, Pst.now p1 S1 _ j⟩
  | ktp xs =>
    obtain ⟨a, e1, e2, j⟩ := jr_tup S1 r1 (.inr rfl)
    exact .inr ⟨a, e1, e2, Pst.now p1 S1 _ j⟩
  | fls xs =>
    obtain ⟨a, e1, e2, j⟩ := jr_lst S1 r1 (.inl rfl)
    exact .inl ⟨a, e1, e2, Pst.now p1 S1 _ j⟩
  | frz xs =>
    obtain ⟨a, e1, e2, j⟩ := jr_lst S1 r1 (.inr rfl)
    exact .inl ⟨a, e1, e2, Pst.now p1 S1 _ j⟩
  | ref l =>
    have p' : Pst X.K c (CI X.K R) W1 (match h1[l]? with | some (.lst xs) => ok (.dyn l (xs.length + 1)) h1 | _ => none) := p1
    cases hl : h1[l]? with
    | none =>
      rw [hl] at p'
      exact p'.elim
    | some o =>
      rw [hl] at p'
      cases o with
      | lst xs =>
        obtain ⟨a, vs, e1, e2, e3, t⟩ := S1.lstAt hl r1
        exact .inl ⟨a, e1, ⟨vs, .inl (.inl e3)⟩, Pst.now p' S1 _ ⟨a, e2, rfl⟩⟩
      | dead => exact p'.elim
      | dK kvs => exact p'.elim
      | dT kvs => exact p'.elim
      | ins cn kvs => exact p'.elim
  | _ => exact p1.elim
theorem runOf_get {a : Int} {n i : Nat} {x : MV} (h : (runOf a n)[i]? = some x) : i < n ∧ x = .int (a + i) := by
  unfold runOf at h
  rw [List.getElem?_map] at h
  by_cases hi : i < n
  · rw [List.getElem?_range hi] at h
    exact ⟨hi, (Option.some.inj h).symm⟩
  · rw [List.getElem?_eq_none (by rw [List.length_range]; omega)] at h
    cases h
theorem runOf_len {a : Int} {n : Nat} : (runOf a n).length = n := by
  unfold runOf
  rw [List.length_map, List.length_range]
theorem jr_rng {a : Int} {n : Nat} : JR K W (.st (runOf a n)) (Itr a n) := fun i W' h' x' S' => by
  refine ⟨fun y hy => ?_, fun hi => by rw [runOf_len] at hi; exact hi⟩
  obtain ⟨h1, h2⟩ := runOf_get hy
  subst h2
  exact ⟨h1, fun v H2 ⟨eh, ev⟩ => ⟨W', eh.symm, Ext.refl _, S', by rw [ev]; exact .int _⟩⟩
theorem rng1F_ok {C : Wd → MIter → Prop} {xs : List MV} {h : MH} (p : Pst K c C W (rng1F xs h)) (S : Sim K W h) : ∃ n : Int, xs = [.int n] ∧ (n ≤ 1000000 ∧ -1000000 ≤ n) ∧ C W (.st (runOf 0 n.toNat)) := by
  unfold rng1F at p
  split at p
  · rename_i n
    by_cases q : n ≤ 1000000 ∧ -1000000 ≤ n
    · rw [if_pos q] at p
      exact ⟨n, rfl, q, Pst.now p S⟩
    · rw [if_neg q] at p
      exact p.elim
  · exact p.elim
theorem rng2F_ok {C : Wd → MIter → Prop} {xs : List MV} {h : MH} (p : Pst K c C W (rng2F xs h)) (S : Sim K W h) : ∃ n k : Int, xs = [.int n, .int k] ∧ ((n ≤ 1000000 ∧ -1000000 ≤ n) ∧ (k ≤ 1000000 ∧ -1000000 ≤ k)) ∧ C W (.st (runOf n (k - n).toNat)) := by
  unfold rng2F at p
  split at p
  · rename_i n k
    by_cases q : (n ≤ 1000000 ∧ -1000000 ≤ n) ∧ (k ≤ 1000000 ∧ -1000000 ≤ k)
    · rw [if_pos q] at p
      exact ⟨n, k, rfl, q, Pst.now p S⟩
    · rw [if_neg q] at p
      exact p.elim
  · exact p.elim
theorem rvs_one {x : MV} {vs : List V} (r : RVs K W [x] vs) : ∃ v, vs = [v] ∧ RV K W x v := by
  cases r with
  | cons r t =>
    cases t
    exact ⟨_, rfl, r⟩
theorem rvs_two {x y : MV} {vs : List V} (r : RVs K W [x, y] vs) : ∃ v w, vs = [v, w] ∧ RV K W x v ∧ RV K W y w := by
  cases r with
  | cons r t =>
    obtain ⟨w, rfl, r2⟩ := rvs_one t
    exact ⟨_, w, rfl, r, r2⟩
theorem im_rng1 {m : MM (List MV)} {p pos : Pos} (hg : Gl X "range") (hm : X.mg "range" = none) (ha : AM X c [a] m) (hs : starEach [a] X.env = [(false, eval a X.env)] := by rfl) : IM X c tg (.Call (.Name "range" p) [a] [] pos) (rng1 m) :=
  pi_wk (pi_range1 hg hm ha hs) fun σ H R ⟨W, h, s, e, S, rs, p⟩ => by
    subst e
    refine ⟨W, h, s, rfl, S, rs, p.bnd fun W1 h1 xs x1 S1 p1 vs r1 => ?_⟩
    obtain ⟨n, rfl, q, p'⟩ := rng1F_ok p1 S1
    obtain ⟨v, rfl, r⟩ := rvs_one r1
    exact ⟨n, by rw [rv_int r], by omega, by omega, p' _ jr_rng⟩
theorem im_rng2 {m : MM (List MV)} {p pos : Pos} (hg : Gl X "range") (hm : X.mg "range" = none) (ha : AM X c [a, b] m) (hs : starEach [a, b] X.env = [(false, eval a X.env), (false, eval b X.env)] := by rfl) (hs2 : starEach [b] X.env = [(false, eval b X.env)] := by rfl) :
    IM X c tg (.Call (.Name "range" p) [a, b] [] pos) (rng2 m) :=
  pi_wk (pi_range2 hg hm ha hs hs2) fun σ H R ⟨W, h, s, e, S, rs, p⟩ => by
    subst e
    refine ⟨W, h, s, rfl, S, rs, p.bnd fun W1 h1 xs x1 S1 p1 vs r1 => ?_⟩
    obtain ⟨n, k, rfl, q, p'⟩ := rng2F_ok p1 S1
    obtain ⟨v, w, rfl, r, r2⟩ := rvs_two r1
    exact ⟨n, k, by rw [rv_int r, rv_int r2], by omega, p' _ jr_rng⟩
end
def forS (bd : MV → MT) : List MV → MT
  | [], s, h => some (.nx s h)
  | x :: xs, s, h => match bd x s h with
    | some (.nx s1 h1) => forS bd xs s1 h1
    | some (.cnt s1 h1) => forS bd xs s1 h1
    | some (.brk s1 h1) => some (.nx s1 h1)
    | some (.ret v h1) => some (.ret v h1)
    | some (.ex e h1) => some (.ex e h1)
    | none => none
def forL (bd : MV → MT) (l : Nat) : Nat → Nat → MT
  | 0, _, _, _ => none
  | n + 1, i, s, h => match h[l]? with
    | some (.lst xs) => match xs[i]? with
      | none => some (.nx s h)
      | some x => match bd x s h with
        | some (.nx s1 h1) => forL bd l n (i + 1) s1 h1
        | some (.cnt s1 h1) => forL bd l n (i + 1) s1 h1
        | some (.brk s1 h1) => some (.nx s1 h1)
        | some (.ret v h1) => some (.ret v h1)
        | some (.ex e h1) => some (.ex e h1)
        | none => none
    | _ => none
def forE (bd : MV → MT) (l : Nat) : Nat → Nat → MT
  | 0, _, _, _ => none
  | n + 1, i, s, h => match h[l]? with
    | some (.lst xs) => match xs[i]? with
      | none => some (.nx s h)
      | some x => match bd (.tup [.int (i : Int), x]) s h with
        | some (.nx s1 h1) => forE bd l n (i + 1) s1 h1
        | some (.cnt s1 h1) => forE bd l n (i + 1) s1 h1
        | some (.brk s1 h1) => some (.nx s1 h1)
        | some (.ret v h1) => some (.ret v h1)
        | some (.ex e h1) => some (.ex e h1)
        | none => none
    | _ => none
@[simp ↓] def turnM (g : MV → MS → Option MS) (m : MT) (x : MV) : MT := fun s h => match g x s with
  | some s1 => m s1 h
  | none => none
@[simp ↓] def forM (mi : MM MIter) (g : MV → MS → Option MS) (m : MT) : MT := fun s h => bndS (mi s h) fun it h1 => match it with
  | .st its => forS (turnM g m) its s h1
  | .dyn l n => forL (turnM g m) l n 0 s h1
  | .enm l n => forE (turnM g m) l n 0 s h1
def whlG (cd : MM Bool) (bd : MT) : Nat → MT
  | 0, _, _ => none
  | n + 1, s, h => bndS (cd s h) fun b h1 => if b = true then (match bd s h1 with
    | some (.nx s1 h2) => whlG cd bd n s1 h2
    | some (.cnt s1 h2) => whlG cd bd n s1 h2
    | some (.brk s1 h2) => some (.nx s1 h2)
    | some (.ret v h2) => some (.ret v h2)
    | some (.ex e h2) => some (.ex e h2)
    | none => none) else some (.nx s h1)
section
variable {X : Cx} {c : XC} {tg e : Expr} {K : PySem.W.Frag} {W : Wd} {pos : Pos} {body : List Stmt}
theorem enm_yld {h : MH} {T : Addr} {i : Nat} {x : MV} {v : V} (S : Sim K W h) (hT : W.H T = none) (r : RV K W x v) : ∃ W2 : Wd, W2.H = upd W.H T (.tup [.int (i : Nat), v]) ∧ Ext W W2 ∧ Sim K W2 h ∧ RV K W2 (.tup [.int ((0 + i : Nat) : Int), x]) (.ref T) := by
  have xp : Ext W (W.put T (.tup [.int (i : Nat), v])) := Ext.put S hT
  refine ⟨_, rfl, xp, Sim.put S hT, ?_⟩
  rw [Nat.zero_add]
  exact .tup (S.fresh hT) upd_same (.cons (.int _) (.cons (r.mono xp) .nil))
theorem s_for {mi : MM MIter} {t : TG} {g : MV → MS → Option MS} {m : MT} (hp : PassesOwn (model X.prog X.w) X.A X.env X.xe) (hc : X.calm = true) (hi : IM X c tg e mi) (hg : PG X tg t) (ho : TgM X.K t g) (hb : SsM X c body m)
    (hs : ∀ x, foldedSetIterable e X.env x = pure x := by intro _; rfl) : SM X c (.For tg e body [] pos) (forM mi g m) := ps_wk (ps_for hp hc hi hg hb hs) fun D σ H ⟨W, h, s, e, S, rs, p⟩ => by
  subst e
  refine ⟨W, h, s, rfl, S, rs, p.bnd fun W1 h1 it x1 S1 p1 J jr => ?_⟩
  cases it with
  | st its =>
    refine ⟨fun i n σ' H' => n = its.length - i ∧ i ≤ its.length ∧ ∃ W' h' s', W'.H = H' ∧ Ext W1 W' ∧ Sim X.K W' h' ∧ RS X.K W' s' σ' ∧ PstS X.K c D W' (forS (turnM g m) (its.drop i) s' h'),
      ⟨its.length, rfl, Nat.zero_le _, W1, h1, s, rfl, Ext.refl _, S1, rs.mono x1, p1⟩, ?_⟩
    rintro i n σ' H' ⟨hn, hle, W', h', s', rfl, x', S', rs', p'⟩
    obtain ⟨j1, j2⟩ := jr i W' h' x' S'
    by_cases hi : i < its.length
    · obtain ⟨jg, jy⟩ := j1 its[i] (List.getElem?_eq_getElem hi)
      rw [List.drop_eq_getElem_cons hi] at p'
      refine .inr ⟨jg, fun σ2 H2 => ∃ W2 h2 s2, W2.H = H2 ∧ Ext W1 W2 ∧ Sim X.K W2 h2 ∧ RS X.K W2 s2 σ2 ∧ PstS X.K c D W2 (forS (turnM g m) (its.drop (i + 1)) s2 h2), fun σ2 H2 w => ⟨its.length - (i + 1), by omega, rfl, by omega, w⟩, fun v H2 y => ?_⟩
      obtain ⟨W2, rfl, x2, S2, r2⟩ := jy v H2 y
      have p2 : PstS X.K c D W2 (forS (turnM g m) (its[i] :: its.drop (i + 1)) s' h') := PstS.shift x2 p'
      unfold forS turnM at p2
      cases hgx : g its[i] s' with
      | none =>
        rw [hgx] at p2
        exact p2.elim
      | some s3 =>
        rw [hgx] at p2
        refine ho W2 s' s3 σ' _ v _ (rs'.mono x2) r2 hgx fun σ3 rs3 => ⟨W2, h', s3, rfl, S2, rs3, ?_⟩
        cases hm : m s3 h' with
        | none =>
          simp only [hm] at p2
          exact p2.elim
        | some r =>
          simp only [hm] at p2
          cases r with
          | nx s4 h4 => exact fun W4 σ4 x4 S4 rs4 => ⟨W4, h4, s4, rfl, (x'.trans x2).trans x4, S4, rs4, PstS.shift x4 p2⟩
          | cnt s4 h4 => exact fun W4 σ4 x4 S4 rs4 => ⟨W4, h4, s4, rfl, (x'.trans x2).trans x4, S4, rs4, PstS.shift x4 p2⟩
          | brk s4 h4 => exact p2
          | ret x4 h4 => exact p2
          | ex e4 h4 => exact p2
    · have e0 : its.drop i = [] := List.drop_eq_nil_of_le (by omega)
      rw [e0] at p'
      exact .inl ⟨j2 (by omega), p' W' σ' (Ext.refl _) S' rs'⟩
  | dyn l k =>
    obtain ⟨a, ea, rfl⟩ := jr
    have hl1 : l < W1.n := by
      rw [S1.n]
      exact S1.lt l a ea
    refine ⟨fun i n σ' H' => ∃ W' h' s', W'.H = H' ∧ Ext W1 W' ∧ Sim X.K W' h' ∧ RS X.K W' s' σ' ∧ PstS X.K c D W' (forL (turnM g m) l n i s' h'),
      ⟨k, W1, h1, s, rfl, Ext.refl _, S1, rs.mono x1, p1⟩, ?_⟩
    rintro i n σ' H' ⟨W', h', s', rfl, x', S', rs', p'⟩
    cases n with
    | zero => exact p'.elim
    | succ n =>
      unfold forL at p'
      cases hl : h'[l]? with
      | none =>
        rw [hl] at p'
        exact p'.elim
      | some o =>
        rw [hl] at p'
        cases o with
        | dead => exact p'.elim
        | dK kvs => exact p'.elim
        | dT kvs => exact p'.elim
        | ins cn kvs => exact p'.elim
        | lst xs =>
          obtain ⟨a', ea'⟩ := S'.live l _ hl (by intro z; cases z)
          obtain rfl : a' = a := by
            rcases x'.agree l hl1 with q | q
            · rw [q, ea] at ea'
              exact (Option.some.inj ea').symm
            · rw [q] at ea'
              cases ea'
          obtain ⟨o2, e2, ro⟩ := S'.obj l a' ea'
          rw [hl] at e2
          cases e2
          obtain ⟨vs, hv, t⟩ := ro
          have hsq : SqL X.K W'.H a' vs := .inl (.inl hv)
          have p2 : PstS X.K c D W' (match xs[i]? with
            | none => some (.nx s' h')
            | some x => match turnM g m x s' h' with
              | some (.nx s1 h1) => forL (turnM g m) l n (i + 1) s1 h1
              | some (.cnt s1 h1) => forL (turnM g m) l n (i + 1) s1 h1
              | some (.brk s1 h1) => some (.nx s1 h1)
              | some (.ret v h1) => some (.ret v h1)
              | some (.ex e h1) => some (.ex e h1)
              | none => none) := p'
          cases hx : xs[i]? with
          | none =>
            rw [hx] at p2
            have hi : vs.length ≤ i := by
              rw [← t.length]
              exact List.getElem?_eq_none_iff.mp hx
            exact .inl ⟨⟨vs, hsq, hi⟩, p2 W' σ' (Ext.refl _) S' rs'⟩
          | some x =>
            rw [hx] at p2
            obtain ⟨v, hvi, rv⟩ := t.get hx
            refine .inr ⟨⟨vs, v, hsq, hvi⟩, fun σ2 H2 => ∃ W2 h2 s2, W2.H = H2 ∧ Ext W1 W2 ∧ Sim X.K W2 h2 ∧ RS X.K W2 s2 σ2 ∧ PstS X.K c D W2 (forL (turnM g m) l n (i + 1) s2 h2), fun σ2 H2 w => ⟨n, Nat.lt_succ_self _, w⟩, fun v2 H2 y => ?_⟩
            obtain ⟨rfl, y2⟩ := y
            have := y2 vs hsq
            rw [hvi] at this
            cases this
            unfold turnM at p2
            cases hgx : g x s' with
            | none =>
              simp only [hgx] at p2
              exact p2.elim
            | some s3 =>
              simp only [hgx] at p2
              refine ho W' s' s3 σ' _ v _ rs' rv hgx fun σ3 rs3 => ⟨W', h', s3, rfl, S', rs3, ?_⟩
              cases hm : m s3 h' with
              | none =>
                simp only [hm] at p2
                exact p2.elim
              | some r =>
                simp only [hm] at p2
                cases r with
                | nx s4 h4 => exact fun W4 σ4 x4 S4 rs4 => ⟨W4, h4, s4, rfl, x'.trans x4, S4, rs4, PstS.shift x4 p2⟩
                | cnt s4 h4 => exact fun W4 σ4 x4 S4 rs4 => ⟨W4, h4, s4, rfl, x'.trans x4, S4, rs4, PstS.shift x4 p2⟩
                | brk s4 h4 => exact p2
                | ret x4 h4 => exact p2
                | ex e4 h4 => exact p2
  | enm l k =>
    obtain ⟨a, ea, rfl⟩ := jr
    have hl1 : l < W1.n := by
      rw [S1.n]
      exact S1.lt l a ea
    refine ⟨fun i n σ' H' => ∃ W' h' s', W'.H = H' ∧ Ext W1 W' ∧ Sim X.K W' h' ∧ RS X.K W' s' σ' ∧ PstS X.K c D W' (forE (turnM g m) l n i s' h'),
      ⟨k, W1, h1, s, rfl, Ext.refl _, S1, rs.mono x1, p1⟩, ?_⟩
    rintro i n σ' H' ⟨W', h', s', rfl, x', S', rs', p'⟩
    cases n with
    | zero => exact p'.elim
    | succ n =>
      unfold forE at p'
      cases hl : h'[l]? with
      | none =>
        rw [hl] at p'
        exact p'.elim
      | some o =>
        rw [hl] at p'
        cases o with
        | dead => exact p'.elim
        | dK kvs => exact p'.elim
        | dT kvs => exact p'.elim
        | ins cn kvs => exact p'.elim
        | lst xs =>
          obtain ⟨a', ea'⟩ := S'.live l _ hl (by intro z; cases z)
          obtain rfl : a' = a := by
            rcases x'.agree l hl1 with q | q
            · rw [q, ea] at ea'
              exact (Option.some.inj ea').symm
            · rw [q] at ea'
              cases ea'
          obtain ⟨o2, e2, ro⟩ := S'.obj l a' ea'
          rw [hl] at e2
          cases e2
          obtain ⟨vs, hv, t⟩ := ro
          have hsq : SqL X.K W'.H a' vs := .inl (.inl hv)
          have p2 : PstS X.K c D W' (match xs[i]? with
            | none => some (.nx s' h')
            | some x => match turnM g m (.tup [.int (i : Int), x]) s' h' with
              | some (.nx s1 h1) => forE (turnM g m) l n (i + 1) s1 h1
              | some (.cnt s1 h1) => forE (turnM g m) l n (i + 1) s1 h1
              | some (.brk s1 h1) => some (.nx s1 h1)
              | some (.ret v h1) => some (.ret v h1)
              | some (.ex e h1) => some (.ex e h1)
              | none => none) := p'
          cases hx : xs[i]? with
          | none =>
            rw [hx] at p2
            have hi : vs.length ≤ i := by
              rw [← t.length]
              exact List.getElem?_eq_none_iff.mp hx
            exact .inl ⟨⟨vs, hsq, hi⟩, p2 W' σ' (Ext.refl _) S' rs'⟩
          | some x =>
            rw [hx] at p2
            obtain ⟨v, hvi, rv⟩ := t.get hx
            refine .inr ⟨⟨vs, v, hsq, hvi⟩, fun σ2 H2 => ∃ W2 h2 s2, W2.H = H2 ∧ Ext W1 W2 ∧ Sim X.K W2 h2 ∧ RS X.K W2 s2 σ2 ∧ PstS X.K c D W2 (forE (turnM g m) l n (i + 1) s2 h2), fun σ2 H2 w => ⟨n, Nat.lt_succ_self _, w⟩, fun v2 H2 y => ?_⟩
            obtain ⟨T, z, ev, hT, eh, y2⟩ := y
            have q := y2 vs hsq
            rw [hvi] at q
            cases q
            subst ev
            subst eh
            obtain ⟨W5, hW5, x5, S5, r5⟩ := enm_yld S' hT rv
            rw [Nat.zero_add] at r5
            rw [← hW5]
            have p2 := PstS.shift x5 p2
            have x' := x'.trans x5
            have rs' := rs'.mono x5
            unfold turnM at p2
            cases hgx : g (.tup [.int (i : Int), x]) s' with
            | none =>
              simp only [hgx] at p2
              exact p2.elim
            | some s3 =>
              simp only [hgx] at p2
              refine ho W5 s' s3 σ' _ _ _ rs' r5 hgx fun σ3 rs3 => ⟨W5, h', s3, rfl, S5, rs3, ?_⟩
              cases hm : m s3 h' with
              | none =>
                simp only [hm] at p2
                exact p2.elim
              | some r =>
                simp only [hm] at p2
                cases r with
                | nx s4 h4 => exact fun W4 σ4 x4 S4 rs4 => ⟨W4, h4, s4, rfl, x'.trans x4, S4, rs4, PstS.shift x4 p2⟩
                | cnt s4 h4 => exact fun W4 σ4 x4 S4 rs4 => ⟨W4, h4, s4, rfl, x'.trans x4, S4, rs4, PstS.shift x4 p2⟩
                | brk s4 h4 => exact p2
                | ret x4 h4 => exact p2
                | ex e4 h4 => exact p2
theorem s_while {cd : Expr} {mc : MM Bool} {m : MT} (n : Nat) (hp : PassesOwn (model X.prog X.w) X.A X.env X.xe) (hc : BM X c cd mc) (hb : SsM X c body m) : SM X c (.While cd body [] pos) (whlG mc m n) := ps_wk (ps_while hp hc hb) fun D σ H ⟨W, h, s, e, S, rs, p⟩ => by
  subst e
  refine ⟨fun k σ' H' => ∃ W' h' s', W'.H = H' ∧ Sim X.K W' h' ∧ RS X.K W' s' σ' ∧ PstS X.K c D W' (whlG mc m k s' h'), ⟨n, W, h, s, rfl, S, rs, p⟩, ?_⟩
  rintro k σ' H' ⟨W', h', s', rfl, S', rs', p'⟩
  cases k with
  | zero => exact p'.elim
  | succ k =>
    refine ⟨W', h', s', rfl, S', rs', p'.bnd fun W1 h1 b x1 S1 p1 => ?_⟩
    cases b with
    | false => exact p1 W1 σ' (Ext.refl _) S1 (rs'.mono x1)
    | true =>
      rw [if_pos rfl] at p1
      refine iteT (B := D.nx σ' W1.H) ⟨fun σ2 H2 => ∃ W2 h2 s2, W2.H = H2 ∧ Sim X.K W2 h2 ∧ RS X.K W2 s2 σ2 ∧ PstS X.K c D W2 (whlG mc m k s2 h2), fun σ2 H2 w => ⟨k, Nat.lt_succ_self _, w⟩, W1, h1, s', rfl, S1, rs'.mono x1, ?_⟩
      cases hm : m s' h1 with
      | none =>
        simp only [hm] at p1
        exact p1.elim
      | some r =>
        simp only [hm] at p1
        cases r with
        | nx s4 h4 => exact fun W4 σ4 x4 S4 rs4 => ⟨W4, h4, s4, rfl, S4, rs4, PstS.shift x4 p1⟩
        | cnt s4 h4 => exact fun W4 σ4 x4 S4 rs4 => ⟨W4, h4, s4, rfl, S4, rs4, PstS.shift x4 p1⟩
        | brk s4 h4 => exact p1
        | ret x4 h4 => exact p1
        | ex e4 h4 => exact p1
end
end Mi
set_option maxHeartbeats 2000000
namespace Mi
open PySem L2
theorem set_comm {α : Type} {l : List α} {i j : Nat} {a b : α} (h : i ≠ j) : (l.set i a).set j b = (l.set j b).set i a := List.set_comm a b h
theorem wipe_set {σ : St} {i : Nat} {o : Option V} : ∀ {vs : List Nat}, i ∈ vs → L2.wipe (σ.set i o) vs = L2.wipe σ vs
  | [], h => by cases h
  | v :: vs, h => by
    show (L2.wipe (σ.set i o) vs).set v none = (L2.wipe σ vs).set v none
    have go : ∀ {vs : List Nat}, ¬ i ∈ vs → L2.wipe (σ.set i o) vs = (L2.wipe σ vs).set i o := fun {vs} => by
      induction vs with
      | nil => exact fun _ => rfl
      | cons w ws ih =>
        intro hn
        have h1 : ¬ i ∈ ws := fun z => hn (List.mem_cons_of_mem _ z)
        have h2 : i ≠ w := fun z => hn (by rw [z]; exact List.mem_cons_self ..)
        show (L2.wipe (σ.set i o) ws).set w none = ((L2.wipe σ ws).set w none).set i o
        rw [ih h1, set_comm h2]
    by_cases hm : i ∈ vs
    · rw [wipe_set hm]
    · rcases List.mem_cons.mp h with e | e
      · rw [go hm, e, List.set_set]
      · exact absurd e hm
theorem wipe_get {σ : St} {i : Nat} : ∀ {vs : List Nat}, (L2.wipe σ vs)[i]? = if i ∈ vs ∧ i < σ.length then some none else σ[i]?
  | [] => by
    show σ[i]? = _
    rw [if_neg (by simp)]
  | v :: vs => by
    show ((L2.wipe σ vs).set v none)[i]? = _
    by_cases hv : v = i
    · subst hv
      by_cases hl : v < σ.length
      · rw [List.getElem?_set_self (by rw [wipe_length]; exact hl), if_pos ⟨List.mem_cons_self .., hl⟩]
      · rw [if_neg (fun z => hl z.2), List.getElem?_eq_none (by rw [List.length_set, wipe_length]; omega), List.getElem?_eq_none (by omega)]
    · rw [List.getElem?_set_ne hv, wipe_get (vs := vs)]
      by_cases hm : i ∈ vs ∧ i < σ.length
      · rw [if_pos hm, if_pos ⟨List.mem_cons_of_mem _ hm.1, hm.2⟩]
      · rw [if_neg hm, if_neg fun z => hm ⟨(List.mem_cons.mp z.1).resolve_left fun y => hv y.symm, z.2⟩]
theorem wipe_wipe {σ : St} {vs : List Nat} : L2.wipe (L2.wipe σ vs) vs = L2.wipe σ vs := by
  apply List.ext_getElem?
  intro i
  rw [wipe_get, wipe_get, wipe_length]
  by_cases h : i ∈ vs ∧ i < σ.length
  · rw [if_pos h, if_pos h]
  · rw [if_neg h]
def lcS (g : MV → MS → Option MS) (cd : MM Bool) (el : ME) (s0 : MS) : List MV → List MV → MH → Res (List MV)
  | [], acc, h => ok acc h
  | x :: xs, acc, h => match g x s0 with
    | none => none
    | some s1 => (cd s1 h).bnd fun b h1 => if b = true then (el s1 h1).bnd fun y h2 => if acc.length < lim then lcS g cd el s0 xs (acc ++ [y]) h2 else none else lcS g cd el s0 xs acc h1
def lcL (g : MV → MS → Option MS) (cd : MM Bool) (el : ME) (s0 : MS) (l : Nat) : Nat → Nat → List MV → MH → Res (List MV)
  | 0, _, _, _ => none
  | n + 1, i, acc, h => match h[l]? with
    | some (.lst zs) => match zs[i]? with
      | none => ok acc h
      | some x => match g x s0 with
        | none => none
        | some s1 => (cd s1 h).bnd fun b h1 => if b = true then (el s1 h1).bnd fun y h2 => if acc.length < lim then lcL g cd el s0 l n (i + 1) (acc ++ [y]) h2 else none else lcL g cd el s0 l n (i + 1) acc h1
    | _ => none
def lcE (g : MV → MS → Option MS) (cd : MM Bool) (el : ME) (s0 : MS) (l : Nat) : Nat → Nat → List MV → MH → Res (List MV)
  | 0, _, _, _ => none
  | n + 1, i, acc, h => match h[l]? with
    | some (.lst zs) => match zs[i]? with
      | none => ok acc h
      | some x => match g (.tup [.int (i : Int), x]) s0 with
        | none => none
        | some s1 => (cd s1 h).bnd fun b h1 => if b = true then (el s1 h1).bnd fun y h2 => if acc.length < lim then lcE g cd el s0 l n (i + 1) (acc ++ [y]) h2 else none else lcE g cd el s0 l n (i + 1) acc h1
    | _ => none
@[simp ↓] def lcM (mi : MM MIter) (vs : List Nat) (g : MV → MS → Option MS) (cd : MM Bool) (el : ME) : MM (List MV) := fun s h => (mi s h).bnd fun it h1 => match it with
  | .st its => lcS g cd el (wipeM s vs) its [] h1
  | .dyn l n => lcL g cd el (wipeM s vs) l n 0 [] h1
  | .enm l n => lcE g cd el (wipeM s vs) l n 0 [] h1
section
variable {K : PySem.W.Frag} {c : XC} {α β : Type}
theorem Pst.bnd2 {C1 : Wd → α → Prop} {C2 : Wd → β → Prop} {W W0 : Wd} {r : Res α} {k : α → MH → Res β} (p : Pst K c C2 W0 (r.bnd k)) (x0 : Ext W0 W)
    (i : ∀ W1 h1 a, Ext W W1 → Sim K W1 h1 → Pst K c C2 W0 (k a h1) → C1 W1 a) : Pst K c C1 W r := by
  match r, p with
  | some (.ok a h), p => exact fun W2 x2 s => i W2 h a x2 s p
  | some (.ex e h), p => exact PX.shift x0 p
def TgC (K : PySem.W.Frag) (t : TG) (g : MV → MS → Option MS) (vs : List Nat) : Prop := ∀ (W : Wd) (s s' : MS) (σ : St) (x : MV) (v : V) (Q : St → Hp → Prop), RS K W s σ → RV K W x v → g x s = some s' → (∀ σ', RS K W s' σ' → L2.wipe σ' vs = L2.wipe σ vs → Q σ' W.H) → t v σ W.H Q
theorem tc_one {i : Nat} {vs : List Nat} (hi : i ∈ vs) : TgC K (gName i) (one i) vs := fun W s s' σ x v Q rs r e q => by
  cases e
  exact q _ (rs.set r i) (wipe_set hi)
theorem lc_turn {W0 W : Wd} {h : MH} {s0 : MS} {σ : St} {vs : List Nat} {D : Addr} {acc : List MV} {aV : List V} {g : MV → MS → Option MS} {cd : MM Bool} {el : ME} {t : TG} {x : MV} {v : V} {C : Wd → List MV → Prop} {Nx : Hp → Prop}
    {k : List MV → MH → Res (List MV)} (ho : TgC K t g vs) (x0 : Ext W0 W) (S : Sim K W h) (hD0 : W0.H D = none) (hh : W.hid D) (hD : W.H D = some (.lst aV)) (ra : RVs K W acc aV) (rs : RS K W0 s0 (L2.wipe σ vs)) (r : RV K W x v)
    (p : Pst K c C W0 (match g x s0 with
      | none => none
      | some s1 => (cd s1 h).bnd fun b h1 => if b = true then (el s1 h1).bnd fun y h2 => if acc.length < lim then k (acc ++ [y]) h2 else none else k acc h1))
    (nx : ∀ W' h' acc' aV', Ext W0 W' → Sim K W' h' → W'.hid D → W'.H D = some (.lst aV') → RVs K W' acc' aV' → Pst K c C W0 (k acc' h') → Nx W'.H) :
    t v (L2.wipe σ vs) W.H fun σ2 H2 => L2.wipe σ2 vs = L2.wipe σ vs ∧ tMB K c cd σ2 H2 fun b H3 => if b = true then tM K c el σ2 H3 fun y H4 => ∃ acc, H4 D = some (.lst acc) ∧ acc.length < sizeLine ∧ Nx (upd H4 D (.lst (acc ++ [y]))) else Nx H3 := by
  cases hg : g x s0 with
  | none =>
    rw [hg] at p
    exact p.elim
  | some s1 =>
    rw [hg] at p
    refine ho W s0 s1 _ x v _ (rs.mono x0) r hg fun σ2 rs2 hw => ⟨hw.trans wipe_wipe, W, h, s1, rfl, S, rs2, ?_⟩
    refine Pst.bnd2 p x0 fun W1 h1 b x1 S1 p1 => ?_
    obtain ⟨hD1, hh1⟩ := x1.hidf D _ hh hD
    cases b with
    | false => exact nx W1 h1 acc aV (x0.trans x1) S1 hh1 hD1 (ra.mono x1) p1
    | true =>
      refine iteT (B := Nx W1.H) ⟨W1, h1, s1, rfl, S1, rs2.mono x1, ?_⟩
      rw [if_pos rfl] at p1
      refine Pst.bnd2 p1 (x0.trans x1) fun W2 h2 y x2 S2 p2 u r2 => ?_
      obtain ⟨hD2, hh2⟩ := x2.hidf D _ hh1 hD1
      by_cases hl : acc.length < lim
      · rw [if_pos hl] at p2
        refine ⟨aV, hD2, Nat.lt_of_lt_of_le (by rw [← ra.length]; exact hl) (lim_line (Nat.le_refl _)), ?_⟩
        exact nx (W2.wr D (.lst (aV ++ [u]))) h2 (acc ++ [y]) (aV ++ [u]) (Ext.wrh hh2 S2 ((x0.trans x1).trans x2) hD0) (S2.wrh hh2) hh2 upd_same ((((ra.mono x1).mono x2).append (.one r2)).wrh hh2) p2
      · rw [if_neg hl] at p2
        exact p2.elim
end
section
variable {X : Cx} {c : XC}
theorem lc_of {K : PySem.W.Frag} {vs : List Nat} {mi : MM MIter} {t : TG} {g : MV → MS → Option MS} {cd : MM Bool} {el : ME} (ho : TgC K t g vs) {σ : St} {H : Hp} {Q : VK} (q : tML K c (lcM mi vs g cd el) σ H Q) : tLc (tMI K c mi) t (tMB K c cd) (tM K c el) vs σ H Q := by
  obtain ⟨W, h, s, e, S, rs, p⟩ := q
  subst e
  refine ⟨W, h, s, rfl, S, rs, p.bnd fun W1 h1 it x1 S1 p1 J jr D hD => ?_⟩
  have rs1 : RS K W1 (wipeM s vs) (L2.wipe σ vs) := (rs.mono x1).wipe _
  have xh : Ext W1 (W1.hide D (.lst [])) := Ext.hide S1 hD
  have Sh : Sim K (W1.hide D (.lst [])) h1 := S1.hide hD
  have fin : ∀ (W' : Wd) (h' : MH) (acc : List MV) (aV : List V), Ext W1 W' → Sim K W' h' → W'.hid D → W'.H D = some (.lst aV) → RVs K W' acc aV → Pst K c (CL K Q) W1 (ok acc h') → Q (.ref D) W'.H := fun W' h' acc aV x' S' hh' hD' ra p' => by
    have q := p' (W'.bare D) (x'.bare hD) (S'.bare hh') aV D (ra.bare hh') (if_pos rfl)
    rw [Wd.bare_upd hD'] at q
    exact q
  cases it with
  | st its =>
    refine ⟨fun i n H' => n = its.length - i ∧ i ≤ its.length ∧ ∃ W' h' acc aV, W'.H = H' ∧ Ext W1 W' ∧ Sim K W' h' ∧ W'.hid D ∧ W'.H D = some (.lst aV) ∧ RVs K W' acc aV ∧ Pst K c (CL K Q) W1 (lcS g cd el (wipeM s vs) (its.drop i) acc h'),
      ⟨its.length, rfl, Nat.zero_le _, W1.hide D (.lst []), h1, [], [], rfl, xh, Sh, .inl rfl, upd_same, .nil, p1⟩, ?_⟩
    rintro i n H' ⟨hn, hle, W', h', acc, aV, rfl, x', S', hh', hD', ra, p'⟩
    obtain ⟨j1, j2⟩ := jr i W' h' x' S'
    by_cases hi : i < its.length
    · obtain ⟨jg, jy⟩ := j1 its[i] (List.getElem?_eq_getElem hi)
      rw [List.drop_eq_getElem_cons hi] at p'
      refine .inr ⟨jg, fun H2 => ∃ W2 h2 acc2 aV2, W2.H = H2 ∧ Ext W1 W2 ∧ Sim K W2 h2 ∧ W2.hid D ∧ W2.H D = some (.lst aV2) ∧ RVs K W2 acc2 aV2 ∧ Pst K c (CL K Q) W1 (lcS g cd el (wipeM s vs) (its.drop (i + 1)) acc2 h2),
        fun H2 w => ⟨its.length - (i + 1), by omega, rfl, by omega, w⟩, fun v H2 y => ?_⟩
      obtain ⟨W2, rfl, x2, S2, r2⟩ := jy v H2 y
      obtain ⟨hD2, hh2⟩ := x2.hidf D _ hh' hD'
      unfold lcS at p'
      exact lc_turn ho (x'.trans x2) S2 hD hh2 hD2 (ra.mono x2) rs1 r2 p' fun W3 h3 acc3 aV3 x3 S3 hh3 hD3 ra3 p3 => ⟨W3, h3, acc3, aV3, rfl, x3, S3, hh3, hD3, ra3, p3⟩
    · have e0 : its.drop i = [] := List.drop_eq_nil_of_le (by omega)
      rw [e0] at p'
      exact .inl ⟨j2 (by omega), fin W' h' acc aV x' S' hh' hD' ra p'⟩
  | dyn l k =>
    obtain ⟨a, ea, rfl⟩ := jr
    have hl1 : l < W1.n := by
      rw [S1.n]
      exact S1.lt l a ea
    refine ⟨fun i n H' => ∃ W' h' acc aV, W'.H = H' ∧ Ext W1 W' ∧ Sim K W' h' ∧ W'.hid D ∧ W'.H D = some (.lst aV) ∧ RVs K W' acc aV ∧ Pst K c (CL K Q) W1 (lcL g cd el (wipeM s vs) l n i acc h'),
      ⟨k, W1.hide D (.lst []), h1, [], [], rfl, xh, Sh, .inl rfl, upd_same, .nil, p1⟩, ?_⟩
    rintro i n H' ⟨W', h', acc, aV, rfl, x', S', hh', hD', ra, p'⟩
    cases n with
    | zero => exact p'.elim
    | succ n =>
      unfold lcL at p'
      cases hl : h'[l]? with
      | none =>
        rw [hl] at p'
        exact p'.elim
      | some o =>
        rw [hl] at p'
        cases o with
        | dead => exact p'.elim
        | dK kvs => exact p'.elim
        | dT kvs => exact p'.elim
        | ins cn kvs => exact p'.elim
        | lst zs =>
          obtain ⟨a', ea'⟩ := S'.live l _ hl (by intro z; cases z)
          obtain rfl : a' = a := by
            rcases x'.agree l hl1 with q | q
            · rw [q, ea] at ea'
              exact (Option.some.inj ea').symm
            · rw [q] at ea'
              cases ea'
          obtain ⟨o2, e2, ro⟩ := S'.obj l a' ea'
          rw [hl] at e2
          cases e2
          obtain ⟨ws, hv, t⟩ := ro
          have hsq : SqL K W'.H a' ws := .inl (.inl hv)
          dsimp only at p'
          cases hx : zs[i]? with
          | none =>
            rw [hx] at p'
            have hi : ws.length ≤ i := by
              rw [← t.length]
              exact List.getElem?_eq_none_iff.mp hx
            exact .inl ⟨⟨ws, hsq, hi⟩, fin W' h' acc aV x' S' hh' hD' ra p'⟩
          | some x =>
            rw [hx] at p'
            obtain ⟨v, hvi, rv⟩ := t.get hx
            refine .inr ⟨⟨ws, v, hsq, hvi⟩, fun H2 => ∃ W2 h2 acc2 aV2, W2.H = H2 ∧ Ext W1 W2 ∧ Sim K W2 h2 ∧ W2.hid D ∧ W2.H D = some (.lst aV2) ∧ RVs K W2 acc2 aV2 ∧ Pst K c (CL K Q) W1 (lcL g cd el (wipeM s vs) l n (i + 1) acc2 h2),
              fun H2 w => ⟨n, Nat.lt_succ_self _, w⟩, fun v2 H2 y => ?_⟩
            obtain ⟨rfl, y2⟩ := y
            have := y2 ws hsq
            rw [hvi] at this
            cases this
            exact lc_turn ho x' S' hD hh' hD' ra rs1 rv p' fun W3 h3 acc3 aV3 x3 S3 hh3 hD3 ra3 p3 => ⟨W3, h3, acc3, aV3, rfl, x3, S3, hh3, hD3, ra3, p3⟩
  | enm l k =>
    obtain ⟨a, ea, rfl⟩ := jr
    have hl1 : l < W1.n := by
      rw [S1.n]
      exact S1.lt l a ea
    refine ⟨fun i n H' => ∃ W' h' acc aV, W'.H = H' ∧ Ext W1 W' ∧ Sim K W' h' ∧ W'.hid D ∧ W'.H D = some (.lst aV) ∧ RVs K W' acc aV ∧ Pst K c (CL K Q) W1 (lcE g cd el (wipeM s vs) l n i acc h'),
      ⟨k, W1.hide D (.lst []), h1, [], [], rfl, xh, Sh, .inl rfl, upd_same, .nil, p1⟩, ?_⟩
    rintro i n H' ⟨W', h', acc, aV, rfl, x', S', hh', hD', ra, p'⟩
    cases n with
    | zero => exact p'.elim
    | succ n =>
      unfold lcE at p'
      cases hl : h'[l]? with
      | none =>
        rw [hl] at p'
        exact p'.elim
      | some o =>
        rw [hl] at p'
        cases o with
        | dead => exact p'.elim
        | dK kvs => exact p'.elim
        | dT kvs => exact p'.elim
        | ins cn kvs => exact p'.elim
        | lst zs =>
          obtain ⟨a', ea'⟩ := S'.live l _ hl (by intro z; cases z)
          obtain rfl : a' = a := by
            rcases x'.agree l hl1 with q | q
            · rw [q, ea] at ea'
              exact (Option.some.inj ea').symm
            · rw [q] at ea'
              cases ea'
          obtain ⟨o2, e2, ro⟩ := S'.obj l a' ea'
          rw [hl] at e2
          cases e2
          obtain ⟨ws, hv, t⟩ := ro
          have hsq : SqL K W'.H a' ws := .inl (.inl hv)
          dsimp only at p'
          cases hx : zs[i]? with
          | none =>
            rw [hx] at p'
            have hi : ws.length ≤ i := by
              rw [← t.length]
              exact List.getElem?_eq_none_iff.mp hx
            exact .inl ⟨⟨ws, hsq, hi⟩, fin W' h' acc aV x' S' hh' hD' ra p'⟩
          | some x =>
            rw [hx] at p'
            obtain ⟨v, hvi, rv⟩ := t.get hx
            refine .inr ⟨⟨ws, v, hsq, hvi⟩, fun H2 => ∃ W2 h2 acc2 aV2, W2.H = H2 ∧ Ext W1 W2 ∧ Sim K W2 h2 ∧ W2.hid D ∧ W2.H D = some (.lst aV2) ∧ RVs K W2 acc2 aV2 ∧ Pst K c (CL K Q) W1 (lcE g cd el (wipeM s vs) l n (i + 1) acc2 h2),
              fun H2 w => ⟨n, Nat.lt_succ_self _, w⟩, fun v2 H2 y => ?_⟩
            obtain ⟨T, z, ev, hT, eh, y2⟩ := y
            have q := y2 ws hsq
            rw [hvi] at q
            cases q
            subst ev
            subst eh
            obtain ⟨W5, hW5, x5, S5, r5⟩ := enm_yld S' hT rv
            rw [Nat.zero_add] at r5
            rw [← hW5]
            obtain ⟨hD5, hh5⟩ := x5.hidf D _ hh' hD'
            exact lc_turn ho (x'.trans x5) S5 hD hh5 hD5 (ra.mono x5) rs1 r5 p' fun W3 h3 acc3 aV3 x3 S3 hh3 hD3 ra3 p3 => ⟨W3, h3, acc3, aV3, rfl, x3, S3, hh3, hD3, ra3, p3⟩
theorem lm_lc {elt tg iter : Expr} {ifs : List Expr} {scope : Scope} {own : List (Str × Nat)} {pos : Pos} {mi : MM MIter} {t : TG} {g : MV → MS → Option MS} {cd : MM Bool} {el : ME} (ho : TgC X.K t g (own.map (·.2)))
    (h : PE X (.ListComp elt [⟨tg, iter, ifs, 0⟩] scope pos) (tLc (tMI X.K c mi) t (tMB X.K c cd) (tM X.K c el) (own.map (·.2)))) : LM X c (.ListComp elt [⟨tg, iter, ifs, 0⟩] scope pos) (lcM mi (own.map (·.2)) g cd el) := pe_wk h fun _ _ _ q => lc_of ho q
theorem s_lcF {elt tg iter : Expr} {ifs : List Expr} {scope : Scope} {own : List (Str × Nat)} {pos spos py : Pos} {y : Str} {i : Nat} {mi : MM MIter} {t : TG} {g : MV → MS → Option MS} {cd : MM Bool} {el : ME} (ho : TgC X.K t g (own.map (·.2)))
    (h : PS X (.Assign [.Name y py] (.ListComp elt [⟨tg, iter, ifs, 0⟩] scope pos) spos) (tAsg (tLc (tMI X.K c mi) t (tMB X.K c cd) (tM X.K c el) (own.map (·.2))) (gName i))) : SM X c (.Assign [.Name y py] (.ListComp elt [⟨tg, iter, ifs, 0⟩] scope pos) spos) (setS i (flsM (lcM mi (own.map (·.2)) g cd el))) :=
  ps_wk h fun D σ H ⟨W, h, s, e, S, rs, p⟩ => by
    subst e
    exact lc_of ho (fls_of ⟨W, h, s, rfl, S, rs, p.bnd fun W1 h1 y x1 S1 p1 v r1 => p1 W1 _ (Ext.refl _) S1 ((rs.mono x1).set r1 i)⟩)
theorem s_lcR {elt tg iter : Expr} {ifs : List Expr} {scope : Scope} {own : List (Str × Nat)} {pos spos py : Pos} {y : Str} {i : Nat} {mi : MM MIter} {t : TG} {g : MV → MS → Option MS} {cd : MM Bool} {el : ME} (ho : TgC X.K t g (own.map (·.2)))
    (h : PS X (.Assign [.Name y py] (.ListComp elt [⟨tg, iter, ifs, 0⟩] scope pos) spos) (tAsg (tLc (tMI X.K c mi) t (tMB X.K c cd) (tM X.K c el) (own.map (·.2))) (gName i))) : SM X c (.Assign [.Name y py] (.ListComp elt [⟨tg, iter, ifs, 0⟩] scope pos) spos) (setS i (refM (lcM mi (own.map (·.2)) g cd el))) :=
  ps_wk h fun D σ H ⟨W, h, s, e, S, rs, p⟩ => by
    subst e
    exact lc_of ho (ref_of ⟨W, h, s, rfl, S, rs, p.bnd fun W1 h1 y x1 S1 p1 v r1 => p1 W1 _ (Ext.refl _) S1 ((rs.mono x1).set r1 i)⟩)
theorem pts_M {m : MM Bool} {cx : Expr} (h : BM X c cx m) : PTs X [cx] (tMB X.K c m) := pts_one h
theorem pts_y : PTs X [] (tMB X.K c yesT) := ⟨fun pins s σ H Q I h => pts_nil.run pins s σ H Q I (by
  obtain ⟨W, h, s, e, S, rs, p⟩ := h
  subst e
  exact p W (Ext.refl _) S)⟩
end
abbrev MF := List MV → MH → Res MV
@[simp ↓] def noex (r : Res MV) : Res MV := match r with
  | some (.ex _ _) => none
  | r => r
@[simp ↓] def defM (np n : Nat) (m : MT) : MF := fun xs h => if xs.length = np then (match m (xs.map some ++ List.replicate (n - np) none) h with
  | some (.nx _ h') => ok .non h'
  | some (.ret x h') => ok x h'
  | some (.ex e h') => some (.ex e h')
  | _ => none) else none
def spM (K : PySem.W.Frag) (mg : Str → Option Value) (np : Nat) (f : MF) : Sp := fun vs H Q E => ∃ W h xs, W.H = H ∧ Sim K W h ∧ RVs K W xs vs ∧ xs.length = np ∧ Pst K ⟨mg, E⟩ (CV K Q) W (f xs h)
@[simp ↓] def callM (f : MF) (ds : List MV) (a : MM (List MV)) : ME := fun s h => (a s h).bnd fun xs h1 => noex (f (xs ++ ds) h1)
section
variable {P : Program} {w : World} {K : PySem.W.Frag} {mg : Str → Option Value} {base : Heap}
theorem body_ok {N : List Str} {vs : List V} {E : XK} {np : Nat} {m : MT} {Q : VK} {H : Hp} (q : spM K mg np (defM np N.length m) vs H Q E) : tS K ⟨mg, E⟩ m { nx := fun _ H' => Q .non H', rt := Q } (start N vs) H := by
  obtain ⟨W, h, xs, rfl, S, r, hl, p⟩ := q
  unfold defM at p
  rw [if_pos hl] at p
  refine ⟨W, h, xs.map some ++ List.replicate (N.length - np) none, rfl, S, ?_, ?_⟩
  · unfold L2.start
    rw [← r.length, hl]
    exact RS.start r _
  · cases hm : m (xs.map some ++ List.replicate (N.length - np) none) h with
    | none =>
      rw [hm] at p
      exact p.elim
    | some o =>
      rw [hm] at p
      cases o with
      | nx s1 h1 => exact fun W1 σ1 x1 S1 rs1 => p W1 x1 S1 _ .non
      | ret x h1 => exact fun W1 v x1 S1 r1 => p W1 x1 S1 v r1
      | brk s1 h1 => exact p.elim
      | cnt s1 h1 => exact p.elim
      | ex e h1 => exact p
theorem fn_mir {x qual : Str} {st : Stmt} {f : Addr} {fd : FuncData} {N ps : List Str} {k : Nat} {m : MT} (F : Fun K x qual st f fd) (S : FnScope N ps (defScope st))
    (hb : ∀ (cdv : Value) (A : Around) (outer : List Env) (s : Shared) (H : Hp) (E : XK), Room k (A.deeper (PyProof.Rows.envOfC qual (defScope st) s.heap.objs.size f cdv)) → SsM (cxOf CX0 P w K mg base N qual (defScope st) f cdv A outer s H E).nox ⟨mg, E⟩ (defBody st) m) :
    FnOk P w K mg base CX0 (k + 1) f fd ps (spM K mg ps.length (defM ps.length N.length m)) := by
  refine F.ok S (fun vs H Q E h => ?_) (fun cdv A outer s H vs Q E hr h => ?_)
  · obtain ⟨W, h, xs, _, _, r, hl, _⟩ := h
    rw [← r.length, hl]
  · exact ⟨_, hb cdv A outer s H E hr, body_ok h⟩
theorem noex_ok {c c' : XC} {C : Wd → MV → Prop} {W : Wd} {r : Res MV} (p : Pst K c C W (noex r)) : Pst K c' C W r := by
  unfold noex at p
  match r, p with
  | some (.ok a h), p => exact p
end
section
variable {X : Cx} {c : XC} {k : Nat} {f : Addr} {fd : FuncData} {ps : List Str} {ds : List Value} {dvs : List V} {dms : List MV} {x : Str} {p pos : Pos} {e : Expr} {es : List Expr} {m : MM (List MV)} {np : Nat} {fM : MF}
theorem tCall_of {K : PySem.W.Frag} {mg : Str → Option Value} (hd : ∀ W, RVs K W dms dvs) (hn : ∀ xs h, (fM xs h).isSome = true → xs.length = np) {σ : St} {H : Hp} {Q : VK} (q : tM K c (callM fM dms m) σ H Q) : tCall (spM K mg np fM) dvs E0 (tMA K c m) σ H Q := by
  obtain ⟨W, h, s, e, S, rs, p⟩ := q
  subst e
  refine ⟨W, h, s, rfl, S, rs, p.bnd fun W1 h1 xs x1 S1 p1 vs r1 => ?_⟩
  refine ⟨W1, h1, xs ++ dms, rfl, S1, r1.append (hd W1), ?_, noex_ok p1⟩
  cases hf : fM (xs ++ dms) h1 with
  | none =>
    rw [hf] at p1
    exact p1.elim
  | some o => exact hn _ h1 (by rw [hf]; rfl)
theorem em_call (F : FnOk X.prog X.w X.K X.mg X.base CX0 k f fd ps (spM X.K X.mg np fM)) (hn : ∀ xs h, (fM xs h).isSome = true → xs.length = np) (hr : Room k X.A) (hg : Gl X x) (hm : X.mg x = some (.ref f)) (hk : PySem.W.keepIn X.K (.ref f) = true) (hb : Binds X.K fd ps ds) (hd : Vals dvs ds) (hd2 : ∀ W, RVs X.K W dms dvs)
    (ha : AM X c (e :: es) m) (hdb : (x == ("__debug__" : Str)) = false := by decide) (he : starEach (e :: es) X.env = (false, eval e X.env) :: starEach es X.env := by rfl) (hpl : (backTo pos (starEach es X.env)).any (·.1) = false := by rfl) :
    EM X c (.Call (.Name x p) (e :: es) [] pos) (callM fM dms m) := pe_wk (pe_call F hr hg hm hk hb hd pass0 ha hdb he hpl) fun σ H Q q => tCall_of hd2 hn q
theorem defM_len {n : Nat} {m : MT} {xs : List MV} {h : MH} (e : (defM np n m xs h).isSome = true) : xs.length = np := by
  unfold defM at e
  by_cases q : xs.length = np
  · exact q
  · rw [if_neg q] at e
    cases e
def pick {α : Type} (is : List Nat) (l : List α) : List α := is.filterMap fun i => l[i]?
theorem RVs.pick {K : PySem.W.Frag} {W : Wd} {xs : List MV} {vs : List V} (r : RVs K W xs vs) : ∀ is : List Nat, RVs K W (Mi.pick is xs) (Mi.pick is vs)
  | [] => .nil
  | i :: is => by
    have ih := RVs.pick r is
    unfold Mi.pick at ih ⊢
    rw [List.filterMap_cons, List.filterMap_cons]
    cases hx : xs[i]? with
    | none =>
      have hv : vs[i]? = none := List.getElem?_eq_none (by rw [← r.length]; exact List.getElem?_eq_none_iff.mp hx)
      rw [hv]
      exact ih
    | some y =>
      obtain ⟨v, hv, rv⟩ := r.get hx
      rw [hv]
      exact .cons rv ih
theorem vals_pick {xs : List V} {us : List Value} (r : Vals xs us) : ∀ is : List Nat, Vals (Mi.pick is xs) (Mi.pick is us)
  | [] => .nil
  | i :: is => by
    have ih := vals_pick r is
    unfold Mi.pick at ih ⊢
    rw [List.filterMap_cons, List.filterMap_cons]
    cases hx : xs[i]? with
    | none =>
      rw [r.none_of hx]
      exact ih
    | some y =>
      obtain ⟨v, hv, rv⟩ := r.get hx
      rw [hv]
      exact .cons rv ih
@[simp ↓] def callKM (f : MF) (n k : Nat) (is : List Nat) (ds : List MV) (a kw : MM (List MV)) : ME := fun s h => (a s h).bnd fun xs h1 => (kw s h1).bnd fun zs h2 => if xs.length = n ∧ zs.length = k then noex (f (pick is (xs ++ zs ++ ds)) h2) else none
abbrev KM (X : Cx) (c : XC) (kws : List Keyword) (m : MM (List MV)) : Prop := PK X kws (tMA X.K c m)
theorem pk_wk {kws : List Keyword} {t t' : TA} (h : PK X kws t) (w : ∀ σ H Q, t' σ H Q → t σ H Q) : PK X kws t' := ⟨fun po pins s σ H Q I q => h.run po pins s σ H Q I (w _ _ _ q)⟩
theorem km_nil : KM X c [] nilA := pk_wk pk_nil fun σ H Q ⟨W, h, s, e, S, rs, p⟩ => by
  subst e
  exact p W (Ext.refl W) S [] .nil
theorem km_cons {ma : ME} {mr : MM (List MV)} {nm : Option Str} {kpos : Pos} {kws : List Keyword} (ha : EM X c e ma) (hr : KM X c kws mr) : KM X c (⟨nm, e, kpos⟩ :: kws) (consA ma mr) :=
  pk_wk (pk_cons ha hr) fun σ H Q ⟨W, h, s, e, S, rs, p⟩ => by
    subst e
    refine ⟨W, h, s, rfl, S, rs, p.bnd fun W1 h1 x x1 S1 p1 v r1 => ?_⟩
    exact ⟨W1, h1, s, rfl, S1, rs.mono x1, p1.bnd fun W2 h2 xs x2 S2 p2 vs r2 => p2 W2 (Ext.refl _) S2 _ (.cons (r1.mono x2) r2)⟩
theorem pe_kw0 {ks : List Str} {sp : Sp} {kws : List Keyword} {tk : TA} {g : List Value → List Value → List Value} {gV : List V → List V → List V} (F : FnOk X.prog X.w X.K X.mg X.base CX0 k f fd ps sp) (hr : Room k X.A) (hg : Gl X x) (hm : X.mg x = some (.ref f)) (hk : PySem.W.keepIn X.K (.ref f) = true)
    (hb : KBn X.K fd ps 0 ks g gV) (hkw : PK X kws tk) (hall : (backToKw pos (keywordEach kws X.env)).all (·.1.isSome) = true := by rfl) (hks : (backToKw pos (keywordEach kws X.env)).filterMap (·.1) = ks := by rfl)
    (hdb : (x == ("__debug__" : Str)) = false := by decide) (hpl : ((backTo pos (starEach [] X.env)).any (·.1) || (backToKw pos (keywordEach kws X.env)).any (·.1.isNone)) = false := by rfl) :
    PE X (.Call (.Name x p) [] kws pos) (tCallN 0 ks.length sp gV E0 tNil tk) := by
  refine ⟨fun pins s σ H Q I h => wpAny_Call_Name_kw (ld_glob I hg hm ?_ hdb)⟩
  refine PySem.W.callWith_KW0 (h₀ := X.base) I.ok.mod.kin hk hall (thn (hkw.run pos pins s σ H _ I h) fun ws s2 ⟨zs, H2, I2, rz, l1, l2, q2⟩ => ⟨I2.kIn, ?_⟩) hpl
  rw [hks]
  exact run_fnN (us := []) F hr hb pass0 I2 .nil rz l1 l2 q2
theorem em_callK0 {kk : Nat} {ks : List Str} {kws : List Keyword} {mk : MM (List MV)} {is : List Nat} {g : List Value → List Value → List Value} (F : FnOk X.prog X.w X.K X.mg X.base CX0 k f fd ps (spM X.K X.mg np fM)) (hn : ∀ xs h, (fM xs h).isSome = true → xs.length = np) (hr : Room k X.A) (hg : Gl X x) (hm : X.mg x = some (.ref f))
    (hk : PySem.W.keepIn X.K (.ref f) = true) (hb : KBn X.K fd ps 0 ks g (fun vs zs => pick is (vs ++ zs ++ dvs))) (hd2 : ∀ W, RVs X.K W dms dvs) (hkw : KM X c kws mk) (hkk : ks.length = kk := by rfl) (hall : (backToKw pos (keywordEach kws X.env)).all (·.1.isSome) = true := by rfl) (hks : (backToKw pos (keywordEach kws X.env)).filterMap (·.1) = ks := by rfl)
    (hdb : (x == ("__debug__" : Str)) = false := by decide) (hpl : ((backTo pos (starEach [] X.env)).any (·.1) || (backToKw pos (keywordEach kws X.env)).any (·.1.isNone)) = false := by rfl) :
    EM X c (.Call (.Name x p) [] kws pos) (callKM fM 0 kk is dms nilA mk) := pe_wk (pe_kw0 F hr hg hm hk hb hkw hall hks hdb hpl) fun σ H Q ⟨W, h, s, e, S, rs, p⟩ => by
  subst e
  subst hkk
  have p' : Pst X.K c (CV X.K Q) W ((mk s h).bnd fun zs h2 => if ([] : List MV).length = 0 ∧ zs.length = ks.length then noex (fM (pick is ([] ++ zs ++ dms)) h2) else none) := p
  refine ⟨W, h, s, rfl, S, rs, p'.bnd fun W2 h2 zs x2 S2 p2 ws r2 => ?_⟩
  by_cases q : ([] : List MV).length = 0 ∧ zs.length = ks.length
  · rw [if_pos q] at p2
    refine ⟨rfl, by rw [← r2.length]; exact q.2, W2, h2, _, rfl, S2, (((RVs.nil).append r2).append (hd2 W2)).pick is, ?_, noex_ok p2⟩
    cases hf : fM (pick is ([] ++ zs ++ dms)) h2 with
    | none =>
      rw [hf] at p2
      exact p2.elim
    | some o => exact hn _ h2 (by rw [hf]; rfl)
  · rw [if_neg q] at p2
    exact p2.elim
end
mutual
def frzV : Nat → MV → MH → Option (MV × MH)
  | 0, _, _ => none
  | n + 1, x, h => match x with
    | .ref l => match h[l]? with
      | some (.lst xs) => match frzL n xs h with
        | some (ys, h1) => some (.fls ys, h1.set l .dead)
        | none => none
      | _ => none
    | x => some (x, h)
def frzL : Nat → List MV → MH → Option (List MV × MH)
  | _, [], h => some ([], h)
  | n, x :: xs, h => match frzV n x h with
    | some (y, h1) => match frzL n xs h1 with
      | some (ys, h2) => some (y :: ys, h2)
      | none => none
    | none => none
end
@[simp ↓] def frzM (m : ME) : ME := fun s h => (m s h).bnd fun x h1 => match frzV 4 x h1 with
  | some (y, h2) => ok y h2
  | none => none
end Mi
set_option maxHeartbeats 2000000
namespace Mi
open PySem L2
structure Stood (W W' : Wd) : Prop where
  H : W'.H = W.H
  hid : W'.hid = W.hid
  f : ∀ j b, W'.f j = some b → W.f j = some b
  x : Ext W W'
theorem Stood.refl (W : Wd) : Stood W W := ⟨rfl, rfl, fun _ _ e => e, Ext.refl W⟩
theorem Stood.trans {W W1 W2 : Wd} (a : Stood W W1) (b : Stood W1 W2) : Stood W W2 := ⟨b.H.trans a.H, b.hid.trans a.hid, fun j z e => a.f j z (b.f j z e), a.x.trans b.x⟩
theorem Stood.kill (W : Wd) (l : Nat) : Stood W (W.kill l) := ⟨rfl, rfl, fun _ _ e => (Wd.kill_some e).2, Ext.kill W l⟩
section
variable {K : PySem.W.Frag}
mutual
theorem frzV_ok : ∀ (n : Nat) (x : MV) (h : MH) (y : MV) (h' : MH) (W : Wd) (v : V), frzV n x h = some (y, h') → Sim K W h → RV K W x v → ∃ W', Stood W W' ∧ Sim K W' h' ∧ RV K W' y v
  | 0, _, _, _, _, _, _, e, _, _ => by
    unfold frzV at e
    cases e
  | n + 1, x, h, y, h', W, v, e, S, r => by
    unfold frzV at e
    cases x with
    | ref l =>
      dsimp only at e
      cases hl : h[l]? with
      | none =>
        rw [hl] at e
        cases e
      | some o =>
        rw [hl] at e
        cases o with
        | dead => cases e
        | dK kvs => cases e
        | dT kvs => cases e
        | ins cn kvs => cases e
        | lst xs =>
          dsimp only at e
          cases hf : frzL n xs h with
          | none =>
            rw [hf] at e
            cases e
          | some q =>
            obtain ⟨ys, h1⟩ := q
            rw [hf] at e
            cases e
            obtain ⟨a, vs, rfl, ea, eH, t⟩ := S.lstAt hl r
            obtain ⟨W1, T, S1, t1⟩ := frzL_ok n xs h ys h1 W vs hf S t
            refine ⟨W1.kill l, T.trans (Stood.kill W1 l), S1.kill l, .fls ⟨fun j z => ?_, ?_⟩ ?_ (t1.mono (Ext.kill W1 l))⟩
            · obtain ⟨hj, e2⟩ := Wd.kill_some z
              exact hj (S.inj j l a (T.f j a e2) ea)
            · show ¬ W1.hid a
              rw [T.hid]
              exact S.nhid l a ea
            · show W1.H a = _
              rw [T.H]
              exact eH
    | _ =>
      cases e
      exact ⟨W, Stood.refl W, S, r⟩
theorem frzL_ok : ∀ (n : Nat) (xs : List MV) (h : MH) (ys : List MV) (h' : MH) (W : Wd) (vs : List V), frzL n xs h = some (ys, h') → Sim K W h → RVs K W xs vs → ∃ W', Stood W W' ∧ Sim K W' h' ∧ RVs K W' ys vs
  | n, [], h, ys, h', W, vs, e, S, r => by
    unfold frzL at e
    cases e
    exact ⟨W, Stood.refl W, S, r⟩
  | n, x :: xs, h, ys, h', W, _, e, S, .cons r t => by
    unfold frzL at e
    cases hf : frzV n x h with
    | none =>
      rw [hf] at e
      cases e
    | some q =>
      obtain ⟨y, h1⟩ := q
      rw [hf] at e
      dsimp only at e
      cases hf2 : frzL n xs h1 with
      | none =>
        rw [hf2] at e
        cases e
      | some q2 =>
        obtain ⟨zs, h2⟩ := q2
        rw [hf2] at e
        cases e
        obtain ⟨W1, T1, S1, r1⟩ := frzV_ok n x h y h1 W _ hf S r
        obtain ⟨W2, T2, S2, t2⟩ := frzL_ok n xs h1 zs h' W1 _ hf2 S1 (t.mono T1.x)
        exact ⟨W2, T1.trans T2, S2, .cons (r1.mono T2.x) t2⟩
end
end
section
variable {X : Cx} {c : XC} {e : Expr} {es : List Expr} {pos : Pos} {K : PySem.W.Frag} {W : Wd}
theorem em_frz {m : ME} (h : EM X c e m) : EM X c e (frzM m) := pe_wk h fun σ H Q ⟨W, h, s, e, S, rs, p⟩ => by
  subst e
  refine ⟨W, h, s, rfl, S, rs, p.bnd fun W1 h1 x x1 S1 p1 v r1 => ?_⟩
  cases hf : frzV 4 x h1 with
  | none =>
    rw [hf] at p1
    exact p1.elim
  | some q =>
    rw [hf] at p1
    obtain ⟨W2, T, S2, r2⟩ := frzV_ok 4 x h1 q.1 q.2 W1 v hf S1 r1
    rw [← T.H]
    exact p1 W2 T.x S2 v r2
def CallM (K : PySem.W.Frag) (c : XC) (r : List V → Hp → VK → Prop) (f : List MV → MH → Res MV) : Prop :=
  ∀ (W : Wd) (h : MH) (xs : List MV) (vs : List V) (Q : VK), Sim K W h → RVs K W xs vs → Pst K c (CV K Q) W (f xs h) → r vs W.H Q
def CallL (K : PySem.W.Frag) (c : XC) (r : List V → Hp → VK → Prop) (f : List MV → MH → Res (List MV)) : Prop :=
  ∀ (W : Wd) (h : MH) (xs : List MV) (vs : List V) (Q : VK), Sim K W h → RVs K W xs vs → Pst K c (CL K Q) W (f xs h) → r vs W.H Q
@[simp ↓] def bltM (f : List MV → MH → Res MV) (a : MM (List MV)) : ME := fun s h => (a s h).bnd f
@[simp ↓] def bltL (f : List MV → MH → Res (List MV)) (a : MM (List MV)) : MM (List MV) := fun s h => (a s h).bnd f
theorem tCB_of {r : List V → Hp → VK → Prop} {f : List MV → MH → Res MV} {m : MM (List MV)} (ho : CallM K c r f) {σ : St} {H : Hp} {Q : VK} (q : tM K c (bltM f m) σ H Q) : tCB r (tMA K c m) σ H Q := by
  obtain ⟨W, h, s, e, S, rs, p⟩ := q
  subst e
  exact ⟨W, h, s, rfl, S, rs, p.bnd fun W1 h1 xs x1 S1 p1 vs r1 => ho W1 h1 xs vs Q S1 r1 p1⟩
theorem tCL_of {r : List V → Hp → VK → Prop} {f : List MV → MH → Res (List MV)} {m : MM (List MV)} (ho : CallL K c r f) {σ : St} {H : Hp} {Q : VK} (q : tML K c (bltL f m) σ H Q) : tCB r (tMA K c m) σ H Q := by
  obtain ⟨W, h, s, e, S, rs, p⟩ := q
  subst e
  exact ⟨W, h, s, rfl, S, rs, p.bnd fun W1 h1 xs x1 S1 p1 vs r1 => ho W1 h1 xs vs Q S1 r1 p1⟩
theorem em_blt {id : String} {x : Str} {p : Pos} {r : List V → Hp → VK → Prop} {f : List MV → MH → Res MV} {m : MM (List MV)} (hc : CallR X (.builtin id) r) (ho : CallM X.K c r f) (hg : Gl X x) (hm : X.mg x = none) (hv : bootBuiltins x = some (.builtin id)) (ha : AM X c (e :: es) m) (hn : x ≠ "__name__" := by decide) (hdb : (x == ("__debug__" : Str)) = false := by decide)
    (he : starEach (e :: es) X.env = (false, eval e X.env) :: starEach es X.env := by rfl) (hpl : (backTo pos (starEach es X.env)).any (·.1) = false := by rfl) : EM X c (.Call (.Name x p) (e :: es) [] pos) (bltM f m) := pe_wk (pe_callB hc hg hm hv ha hn hdb he hpl) fun σ H Q q => tCB_of ho q
theorem em_bty {T : String} {x : Str} {p : Pos} {r : List V → Hp → VK → Prop} {f : List MV → MH → Res MV} {m : MM (List MV)} (hc : CallR X (.type T) r) (ho : CallM X.K c r f) (hg : Gl X x) (hm : X.mg x = none) (hv : bootBuiltins x = some (.type T)) (ha : AM X c (e :: es) m) (hn : x ≠ "__name__" := by decide) (hdb : (x == ("__debug__" : Str)) = false := by decide)
    (he : starEach (e :: es) X.env = (false, eval e X.env) :: starEach es X.env := by rfl) (hpl : (backTo pos (starEach es X.env)).any (·.1) = false := by rfl) : EM X c (.Call (.Name x p) (e :: es) [] pos) (bltM f m) := pe_wk (pe_callTy hc hg hm hv ha hn hdb he hpl) fun σ H Q q => tCB_of ho q
theorem lm_bty {T : String} {x : Str} {p : Pos} {r : List V → Hp → VK → Prop} {f : List MV → MH → Res (List MV)} {m : MM (List MV)} (hc : CallR X (.type T) r) (ho : CallL X.K c r f) (hg : Gl X x) (hm : X.mg x = none) (hv : bootBuiltins x = some (.type T)) (ha : AM X c (e :: es) m) (hn : x ≠ "__name__" := by decide) (hdb : (x == ("__debug__" : Str)) = false := by decide)
    (he : starEach (e :: es) X.env = (false, eval e X.env) :: starEach es X.env := by rfl) (hpl : (backTo pos (starEach es X.env)).any (·.1) = false := by rfl) : LM X c (.Call (.Name x p) (e :: es) [] pos) (bltL f m) := pe_wk (pe_callTy hc hg hm hv ha hn hdb he hpl) fun σ H Q q => tCL_of ho q
end
@[simp ↓] def lenF (xs : List MV) (h : MH) : Res MV := match xs with
  | [.str z] => if z.length ≤ lim then ok (.int z.length) h else none
  | [x] => match seqOf h x with
    | some ys => ok (.int ys.length) h
    | none => none
  | _ => none
@[simp ↓] def absF (xs : List MV) (h : MH) : Res MV := match xs with
  | [.int i] => ok (.int (if i < 0 then -i else i)) h
  | _ => none
@[simp ↓] def intF (xs : List MV) (h : MH) : Res MV := match xs with
  | [.int i] => ok (.int i) h
  | [.bl k] => ok (.int (if k then 1 else 0)) h
  | _ => none
@[simp ↓] def min2F (xs : List MV) (h : MH) : Res MV := match xs with
  | [.int i, .int j] => ok (.int (if j < i then j else i)) h
  | _ => none
@[simp ↓] def max2F (xs : List MV) (h : MH) : Res MV := match xs with
  | [.int i, .int j] => ok (.int (if j > i then j else i)) h
  | _ => none
@[simp ↓] def tupF (xs : List MV) (h : MH) : Res MV := match xs with
  | [.ktp _] => none
  | [x] => match seqOf h x with
    | some ys => ok (.tup ys) h
    | none => none
  | _ => none
@[simp ↓] def lstF (xs : List MV) (h : MH) : Res (List MV) := match xs with
  | [x] => seqOf h x |>.map fun ys => .ok ys h
  | _ => none
def intOf : MV → Option Int
  | .int i => some i
  | _ => none
def intsOf : List MV → Option (List Int)
  | [] => some []
  | x :: xs => match intOf x, intsOf xs with
    | some i, some is => some (i :: is)
    | _, _ => none
section
variable {X : Cx} {c : XC} {K : PySem.W.Frag} {W : Wd}
theorem ints_V : ∀ {xs : List MV} {vs : List V} {ns : List Int}, RVs K W xs vs → intsOf xs = some ns → vs = ns.map V.int ∧ xs = ns.map MV.int
  | [], _, _, .nil, e => by
    cases e
    exact ⟨rfl, rfl⟩
  | x :: xs, _, ns, .cons r t, e => by
    unfold intsOf at e
    cases x <;> first | (cases e; done) | skip
    rename_i i
    cases h : intsOf xs with
    | none =>
      simp only [intOf, h] at e
      cases e
    | some is =>
      simp only [intOf, h] at e
      cases e
      obtain ⟨e1, e2⟩ := ints_V t h
      subst e1 e2
      rw [rv_int r]
      exact ⟨rfl, rfl⟩
theorem cm_len : CallM K c (fun xs H Q => ∃ x n, xs = [x] ∧ LenV K x H n ∧ Q (.int n) H) lenF := fun W h xs vs Q S r p => by
  unfold lenF at p
  split at p
  · rename_i z
    obtain ⟨v, rfl, r1⟩ := rvs_one r
    by_cases q : z.length ≤ lim
    · rw [if_pos q] at p
      exact ⟨v, z.length, rfl, by rw [rv_str r1]; exact ⟨lim_line q, rfl⟩, Pst.now p S _ (.int _)⟩
    · rw [if_neg q] at p
      exact p.elim
  · rename_i x _
    obtain ⟨v, rfl, r1⟩ := rvs_one r
    cases e : seqOf h x with
    | none =>
      rw [e] at p
      exact p.elim
    | some ys =>
      rw [e] at p
      obtain ⟨a, ws, rfl, hq, t⟩ := seq_sq S r1 e
      refine ⟨_, ys.length, rfl, ?_, Pst.now p S _ (.int _)⟩
      rcases hq with hq | hq
      · exact .inl ⟨ws, hq, t.length⟩
      · exact .inr ⟨ws, hq, t.length⟩
  · exact p.elim
theorem cm_abs : CallM K c (fun xs H Q => ∃ i, xs = [.int i] ∧ Q (.int (if i < 0 then -i else i)) H) absF := fun W h xs vs Q S r p => by
  unfold absF at p
  split at p
  · rename_i i
    obtain ⟨v, rfl, r1⟩ := rvs_one r
    exact ⟨i, by rw [rv_int r1], Pst.now p S _ (.int _)⟩
  · exact p.elim
theorem cm_int : CallM K c (fun xs H Q => (∃ i, xs = [.int i] ∧ Q (.int i) H) ∨ ∃ k, xs = [.bl k] ∧ Q (.int (if k then 1 else 0)) H) intF := fun W h xs vs Q S r p => by
  unfold intF at p
  split at p
  · rename_i i
    obtain ⟨v, rfl, r1⟩ := rvs_one r
    exact .inl ⟨i, by rw [rv_int r1], Pst.now p S _ (.int _)⟩
  · rename_i i
    obtain ⟨v, rfl, r1⟩ := rvs_one r
    exact .inr ⟨i, by rw [rv_bl r1], Pst.now p S _ (.int _)⟩
  · exact p.elim
theorem cm_tup : CallM K c (fun xs H Q => ∃ p ys, xs = [.ref p] ∧ ((SqL K H p ys ∧ ∀ l, H l = none → Q (.ref l) (upd H l (.tup ys))) ∨ (SqT K H p ys ∧ Q (.ref p) H))) tupF := fun W h xs vs Q S r p => by
  unfold tupF at p
  split at p
  · exact p.elim
  · rename_i x hk
    obtain ⟨v, rfl, r1⟩ := rvs_one r
    cases e : seqOf h x with
    | none =>
      rw [e] at p
      exact p.elim
    | some ys =>
      rw [e] at p
      cases x with
      | tup zs =>
        cases e
        obtain ⟨a, ws, rfl, hq, t⟩ := tup_sq r1
        exact ⟨a, ws, rfl, .inr ⟨hq, Pst.now p S _ r1⟩⟩
      | ktp zs => exact absurd rfl (hk zs)
      | _ =>
        obtain ⟨a, ws, rfl, hq, t⟩ := lst_sq S r1 e
        exact ⟨a, ws, rfl, .inl ⟨hq, fun l hl => p (W.put l (.tup ws)) (Ext.put S hl) (S.put hl) (.ref l) (.tup (S.fresh hl) upd_same (t.mono (Ext.put S hl)))⟩⟩
  · exact p.elim
theorem cl_lst : CallL K c (fun xs H Q => ∃ p ys, xs = [.ref p] ∧ (SqL K H p ys ∨ SqT K H p ys) ∧ ∀ l, H l = none → Q (.ref l) (upd H l (.lst ys))) lstF := fun W h xs vs Q S r p => by
  unfold lstF at p
  split at p
  · rename_i x
    obtain ⟨v, rfl, r1⟩ := rvs_one r
    cases e : seqOf h x with
    | none =>
      rw [e] at p
      exact p.elim
    | some ys =>
      rw [e] at p
      obtain ⟨a, ws, rfl, hq, t⟩ := seq_sq S r1 e
      exact ⟨a, ws, rfl, hq, fun l hl => p W (Ext.refl W) S ws l t hl⟩
  · exact p.elim
end
inductive Ty where
  | non | bool | int | str | tuple | list | dict
  deriving DecidableEq
def Ty.nm : Ty → String
  | .non => "NoneType"
  | .bool => "bool"
  | .int => "int"
  | .str => "str"
  | .tuple => "tuple"
  | .list => "list"
  | .dict => "dict"
@[simp ↓] def tyOf (h : MH) : MV → Option Ty
  | .non => some .non
  | .bl _ => some .bool
  | .int _ => some .int
  | .str _ => some .str
  | .tup _ => some .tuple
  | .ktp _ => some .tuple
  | .fls _ => some .list
  | .frz _ => some .list
  | .ref l => match h[l]? with
    | some (.lst _) => some .list
    | some (.dK _) => some .dict
    | _ => none
  | .exc .. => none
  | .fdt .. => none
def Ty.le (a b : Ty) : Bool := decide (a = b) || (decide (a = .bool) && decide (b = .int))
@[simp ↓] def isiM (ts : List Ty) (m : ME) : ME := fun s h => (m s h).bnd fun x h1 => match tyOf h1 x with
  | some t => ok (.bl (ts.any fun u => t.le u)) h1
  | none => none
section
variable {X : Cx} {c : XC} {K : PySem.W.Frag} {W : Wd} {e : Expr} {pos p p2 : Pos}
theorem kit_le (a b : Ty) (hb : b ≠ .non) : PySem.W.kitOne K (.type a.nm) (.type b.nm) = some (a.le b) := by
  refine kit_ty ?_
  cases a <;> cases b <;> first | exact absurd rfl hb | decide +kernel
theorem ty_V {h : MH} {x : MV} {v : V} {t : Ty} (S : Sim K W h) (r : RV K W x v) (e : tyOf h x = some t) : TyX K W.H v (.type t.nm) := by
  cases r with
  | non =>
    cases e
    exact .base .non
  | bl b =>
    cases e
    exact .base (.bl b)
  | int i =>
    cases e
    exact .base (.int i)
  | str z =>
    cases e
    exact .base (.str z)
  | tup s q t =>
    cases e
    exact .base (.tup q)
  | tupK q t =>
    cases e
    rcases q fun _ => none with (q | ⟨o, q⟩) | ⟨o, its, n, q, hc, _⟩
    · cases q
    · cases q
    · exact .kTuple q hc
  | exc0 => cases e
  | excD => cases e
  | fdt => cases e
  | fls s q t =>
    cases e
    exact .base (.lst q)
  | frz s q t =>
    cases e
    rcases q with q | ⟨o, q⟩
    · exact .base (.lst q)
    · exact .base (.frz q)
  | frzK q t =>
    cases e
    rcases q fun _ => none with (q | ⟨o, q⟩) | ⟨o, its, n, q, hc, _⟩
    · cases q
    · cases q
    · exact .kList q hc
  | @ref l a lt q =>
    have e' : (match h[l]? with | some (.lst _) => some Ty.list | some (.dK _) => some Ty.dict | _ => none) = some t := e
    cases hl : h[l]? with
    | none =>
      rw [hl] at e'
      cases e'
    | some o =>
      rw [hl] at e'
      cases o with
      | dead => cases e'
      | lst xs =>
        cases e'
        obtain ⟨b, vs, e1, e2, e3, _⟩ := S.lstAt hl (.ref lt q)
        cases e1
        exact .base (.lst e3)
      | dK kvs =>
        cases e'
        obtain ⟨b, e1, e2, kws, e3, _⟩ := S.at hl (by intro z; cases z) (.ref lt q)
        cases e1
        exact .base (.dK e3)
      | dT kvs => cases e'
      | ins cn kvs => cases e'
theorem em_isi {m : ME} {T : Expr} (u : Ty) (hu : u ≠ .non) (hg : Gl X "isinstance") (hm : X.mg "isinstance" = none) (hT : PE X T (tC (.ty u.nm))) (he : EM X c e m) (hs : starEach [e, T] X.env = (false, eval e X.env) :: starEach [T] X.env := by rfl) (hs2 : starEach [T] X.env = (false, eval T X.env) :: starEach [] X.env := by rfl)
    (hpl : (backTo pos (starEach [T] X.env)).any (·.1) = false := by rfl) : EM X c (.Call (.Name "isinstance" p) [e, T] [] pos) (isiM [u] m) :=
  pe_wk (pe_callB call_isi hg hm PyProof.Rows.boot_isinstance (pa_cons he (pa_cons hT pa_nil hs2) hs) (by decide) (by decide) hs hpl) fun σ H Q ⟨W, h, s, e, S, rs, p⟩ => by
    subst e
    refine ⟨W, h, s, rfl, S, rs, p.bnd fun W1 h1 x x1 S1 p1 v r1 => ?_⟩
    cases et : tyOf h1 x with
    | none =>
      rw [et] at p1
      exact p1.elim
    | some t =>
      rw [et] at p1
      refine ⟨v, .ty u.nm, .type t.nm, .type u.nm, t.le u, rfl, .ty _, ty_V S1 r1 et, kit_le t u hu, ?_⟩
      have e2 : ([u].any fun u => t.le u) = t.le u := by
        rw [List.any_cons, List.any_nil, Bool.or_false]
      rw [← e2]
      exact Pst.now p1 S1 _ (.bl _)
end
@[simp ↓] def isL (h : MH) (x : MV) : Bool := match x with
  | .ref l => match h[l]? with
    | some (.lst _) => true
    | _ => false
  | _ => false
@[simp ↓] def mthM (f : MV → List MV → MH → Res MV) (o : ME) (a : MM (List MV)) : ME := fun s h => (o s h).bnd fun x h1 => if isL h1 x = true then (a s h1).bnd fun ys h2 => f x ys h2 else none
@[simp ↓] def appF (x : MV) (ys : List MV) (h : MH) : Res MV := match x, ys with
  | .ref l, [y] => match h[l]? with
    | some (.lst xs) => if xs.length < lim then ok .non (h.set l (.lst (xs ++ [y]))) else none
    | _ => none
  | _, _ => none
@[simp ↓] def popF (x : MV) (ys : List MV) (h : MH) : Res MV := match x, ys with
  | .ref l, [] => match h[l]? with
    | some (.lst xs) => match xs[xs.length - 1]? with
      | some y => ok y (h.set l (.lst xs.dropLast))
      | none => none
    | _ => none
  | _, _ => none
@[simp ↓] def popAtF (x : MV) (ys : List MV) (h : MH) : Res MV := match x, ys with
  | .ref l, [.int i] => match h[l]? with
    | some (.lst xs) => match ixN xs.length i with
      | some k => match xs[k]? with
        | some y => if xs.length ≤ lim then ok y (h.set l (.lst (xs.eraseIdx k))) else none
        | none => none
      | none => none
    | _ => none
  | _, _ => none
@[simp ↓] def extF (x : MV) (ys : List MV) (h : MH) : Res MV := match x, ys with
  | .ref l, [.ref k] => match h[l]?, h[k]? with
    | some (.lst xs), some (.lst zs) => if xs.length + zs.length ≤ lim then ok .non (h.set l (.lst (xs ++ zs))) else none
    | _, _ => none
  | .ref l, [.fls zs] => match h[l]? with
    | some (.lst xs) => if xs.length + zs.length ≤ lim then ok .non (h.set l (.lst (xs ++ zs))) else none
    | _ => none
  | _, _ => none
@[simp ↓] def revF (x : MV) (ys : List MV) (h : MH) : Res MV := match x, ys with
  | .ref l, [] => match h[l]? with
    | some (.lst xs) => ok .non (h.set l (.lst xs.reverse))
    | _ => none
  | _, _ => none
def MthM (K : PySem.W.Frag) (c : XC) (r : V → List V → Hp → VK → Prop) (f : MV → List MV → MH → Res MV) : Prop :=
  ∀ (W : Wd) (h : MH) (x : MV) (xs : List MV) (v : V) (vs : List V) (Q : VK), Sim K W h → RV K W x v → RVs K W xs vs → Pst K c (CV K Q) W (f x xs h) → r v vs W.H Q
section
variable {X : Cx} {c : XC} {K : PySem.W.Frag} {W : Wd} {o e : Expr} {es : List Expr}
theorem isL_ty {h : MH} {x : MV} {v : V} (S : Sim K W h) (r : RV K W x v) (e : isL h x = true) : tyV K "list" v W.H := by
  unfold isL at e
  cases x <;> first | (cases e; done) | skip
  rename_i l
  dsimp only at e
  cases hl : h[l]? with
  | none =>
    rw [hl] at e
    cases e
  | some o =>
    rw [hl] at e
    cases o with
    | lst xs =>
      obtain ⟨a, vs, rfl, e2, e3, t⟩ := S.lstAt hl r
      exact .inl ⟨rfl, vs, .inl (.inl e3)⟩
    | dead => cases e
    | dK kvs => cases e
    | dT kvs => cases e
    | ins cn kvs => cases e
theorem em_mth {name : Str} {apos cpos : Pos} {r : V → List V → Hp → VK → Prop} {f : MV → List MV → MH → Res MV} {mo : ME} {ma : MM (List MV)} (hf : MthM X.K c r f)
    (h : PE X (.Call (.Attribute o name apos) (e :: es) [] cpos) (tBM X.K "list" r (tM X.K c mo) (tMA X.K c ma))) : EM X c (.Call (.Attribute o name apos) (e :: es) [] cpos) (mthM f mo ma) := pe_wk h fun σ H Q ⟨W, h, s, e, S, rs, p⟩ => by
  subst e
  refine ⟨W, h, s, rfl, S, rs, p.bnd fun W1 h1 x x1 S1 p1 v r1 => ?_⟩
  by_cases q : isL h1 x = true
  · rw [if_pos q] at p1
    exact ⟨isL_ty S1 r1 q, W1, h1, s, rfl, S1, rs.mono x1, p1.bnd fun W2 h2 ys x2 S2 p2 vs r2 => hf W2 h2 x ys v vs Q S2 (r1.mono x2) r2 p2⟩
  · rw [if_neg q] at p1
    exact p1.elim
theorem RVs.dropLast {xs : List MV} {vs : List V} (t : RVs K W xs vs) : RVs K W xs.dropLast vs.dropLast := by
  rw [List.dropLast_eq_take, List.dropLast_eq_take, ← t.length]
  exact t.take _
theorem mm_popAt : MthM K c rPopAt popAtF := fun W h x ys v vs Q S r rs p => by
  unfold popAtF at p
  split at p
  · rename_i l i
    obtain ⟨w, rfl, ri⟩ := rvs_one rs
    cases hl : h[l]? with
    | none =>
      rw [hl] at p
      exact p.elim
    | some o =>
      rw [hl] at p
      cases o with
      | dead => exact p.elim
      | dK kvs => exact p.elim
      | dT kvs => exact p.elim
      | ins cn kvs => exact p.elim
      | lst xs =>
        dsimp only at p
        cases hk : ixN xs.length i with
        | none =>
          rw [hk] at p
          exact p.elim
        | some k =>
          rw [hk] at p
          dsimp only at p
          cases hy : xs[k]? with
          | none =>
            rw [hy] at p
            exact p.elim
          | some y =>
            rw [hy] at p
            dsimp only at p
            by_cases q : xs.length ≤ lim
            · rw [if_pos q] at p
              obtain ⟨a, ws, rfl, e2, e3, t⟩ := S.lstAt hl r
              obtain ⟨u, hu, ru⟩ := t.get hy
              obtain ⟨h1, h2, h3, h4⟩ := ixN_seq hk
              have hlim : lim = 1000000 := rfl
              refine ⟨a, ws, i, k, u, rfl, by rw [rv_int ri], e3, by omega, by omega, by rw [← t.length]; exact h1, hu, ?_⟩
              exact p (W.wr a (.lst (ws.eraseIdx k))) (Ext.wr S e2) (S.wr e2 ⟨_, upd_same, (t.eraseIdx k).mono (Ext.wr S e2)⟩) u (ru.mono (Ext.wr S e2))
            · rw [if_neg q] at p
              exact p.elim
  · exact p.elim
end
end Mi
set_option maxHeartbeats 2000000
namespace Mi
open PySem L2
def cutM (xs : List MV) (lo hi : Option Int) : List MV := (xs.drop (HT.sIx xs.length 0 lo)).take (HT.sIx xs.length xs.length hi - HT.sIx xs.length 0 lo)
@[simp ↓] def noO : MM (Option Int) := fun _ h => ok none h
@[simp ↓] def someO (m : ME) : MM (Option Int) := fun s h => (m s h).bnd fun x h1 => match x with
  | .int i => ok (some i) h1
  | _ => none
@[simp ↓] def sliL (m : ME) (lo hi : MM (Option Int)) : MM (List MV) := fun s h => (m s h).bnd fun x h1 => (lo s h1).bnd fun a h2 => (hi s h2).bnd fun b h3 => match lstOf h3 x with
  | some xs => ok (cutM xs a b) h3
  | none => none
@[simp ↓] def sliT (m : ME) (lo hi : MM (Option Int)) : ME := fun s h => (m s h).bnd fun x h1 => (lo s h1).bnd fun a h2 => (hi s h2).bnd fun b h3 => match x with
  | .tup xs => ok (.tup (cutM xs a b)) h3
  | x => match lstOf h3 x with
    | some xs => ok (.fls (cutM xs a b)) h3
    | none => none
@[simp ↓] def rvsL (m : ME) : MM (List MV) := fun s h => (m s h).bnd fun x h1 => match lstOf h1 x with
  | some xs => ok xs.reverse h1
  | none => none
section
variable {X : Cx} {c : XC} {e : Expr} {pos p2 : Pos} {K : PySem.W.Frag} {W : Wd}
theorem RVs.cut {xs : List MV} {vs : List V} (t : RVs K W xs vs) (lo hi : Option Int) : RVs K W (cutM xs lo hi) (cutV vs lo hi) := by
  unfold cutM cutV
  rw [← t.length]
  exact (t.drop _).take _
theorem om_none : PO X none (tMO X.K c noO) := po_wk po_none fun σ H Q ⟨W, h, s, e, S, rs, p⟩ => by
  subst e
  exact p W (Ext.refl W) S
theorem om_some {m : ME} (h : EM X c e m) : PO X (some e) (tMO X.K c (someO m)) := po_wk (po_some h) fun σ H Q ⟨W, h, s, e, S, rs, p⟩ => by
  subst e
  refine ⟨W, h, s, rfl, S, rs, p.bnd fun W1 h1 x x1 S1 p1 v r1 => ?_⟩
  cases x <;> first | exact p1.elim | skip
  rename_i i
  exact ⟨i, rv_int r1, Pst.now p1 S1⟩
theorem em_sli {m : ME} {lo hi : Option Expr} {ml mh : MM (Option Int)} (he : EM X c e m) (hl : PO X lo (tMO X.K c ml)) (hh : PO X hi (tMO X.K c mh)) : EM X c (.Subscript e (.Slice lo hi none p2) pos) (sliT m ml mh) :=
  pe_wk (pe_slice (SlR.or sl_list sl_tupA) he hl hh) fun σ H Q ⟨W, h, s, e, S, rs, p⟩ => by
    subst e
    refine ⟨W, h, s, rfl, S, rs, p.bnd fun W1 h1 x x1 S1 p1 v r1 => ?_⟩
    refine ⟨W1, h1, s, rfl, S1, rs.mono x1, p1.bnd fun W2 h2 a x2 S2 p2 => ?_⟩
    refine ⟨W2, h2, s, rfl, S2, (rs.mono x1).mono x2, p2.bnd fun W3 h3 b x3 S3 p3 => ?_⟩
    have r3 := (r1.mono x2).mono x3
    have go : Pst X.K c (CV X.K Q) W3 (match lstOf h3 x with | some xs => ok (.fls (cutM xs a b)) h3 | none => none) → rSlL X.K v a b W3.H Q := fun p3 => by
      cases hx : lstOf h3 x with
      | none =>
        rw [hx] at p3
        exact p3.elim
      | some xs =>
        rw [hx] at p3
        obtain ⟨q, vs, e1, e2, t⟩ := lst_sq S3 r3 hx
        exact ⟨q, vs, e1, e2, fun d hd => p3 (W3.put d _) (Ext.put S3 hd) (S3.put hd) (.ref d) (.fls (S3.fresh hd) upd_same ((t.cut a b).mono (Ext.put S3 hd)))⟩
    cases x with
    | tup xs =>
      obtain ⟨q, vs, rfl, e2, t⟩ := tup_sq r3
      refine .inr ⟨q, vs, rfl, e2, fun hw => ?_, fun hw d hd => ?_⟩
      · have ec : cutM xs a b = xs := by
          unfold cutM
          rw [t.length, hw.1, hw.2, ← t.length]
          simp
        have p4 : Pst X.K c (CV X.K Q) W3 (ok (.tup (cutM xs a b)) h3) := p3
        rw [ec] at p4
        exact Pst.now p4 S3 _ r3
      · exact p3 (W3.put d _) (Ext.put S3 hd) (S3.put hd) (.ref d) (.tup (S3.fresh hd) upd_same ((t.cut a b).mono (Ext.put S3 hd)))
    | _ => exact .inl (go p3)
end
@[simp ↓] def wlstOf (h : MH) : MV → Option (List MV)
  | .fls xs => some xs
  | .ref l => match h[l]? with
    | some (.lst xs) => some xs
    | _ => none
  | _ => none
@[simp ↓] def catL (a b : ME) : MM (List MV) := fun s h => (a s h).bnd fun x h1 => (b s h1).bnd fun y h2 => match wlstOf h2 x, wlstOf h2 y with
  | some xs, some ys => if xs.length + ys.length ≤ lim then ok (xs ++ ys) h2 else none
  | _, _ => none
@[simp ↓] def repL (a b : ME) : MM (List MV) := fun s h => (a s h).bnd fun x h1 => (b s h1).bnd fun y h2 => match wlstOf h2 x, y with
  | some xs, .int k => if (k ≤ 1000000 ∧ -1000000 ≤ k) ∧ xs.length * k.toNat ≤ lim then ok (List.replicate k.toNat xs).flatten h2 else none
  | _, _ => none
@[simp ↓] def rgL (a : ME) : MM (List MV) := fun s h => (a s h).bnd fun x h1 => match x with
  | .int n => if n ≤ 1000000 ∧ -1000000 ≤ n then ok (runOf 0 n.toNat) h1 else none
  | _ => none
@[simp ↓] def rgT (a : ME) : ME := fun s h => (a s h).bnd fun x h1 => match x with
  | .int n => if n ≤ 1000000 ∧ -1000000 ≤ n then ok (.tup (runOf 0 n.toNat)) h1 else none
  | _ => none
section
variable {X : Cx} {c : XC} {a b : Expr} {pos p p2 : Pos} {K : PySem.W.Frag} {W : Wd}
theorem wlst_sq {h : MH} {x : MV} {v : V} {xs : List MV} (S : Sim K W h) (r : RV K W x v) (e : wlstOf h x = some xs) : ∃ p vs, v = .ref p ∧ W.H p = some (.lst vs) ∧ RVs K W xs vs := by
  cases x with
  | fls ys =>
    cases e
    cases r with
    | fls s q t => exact ⟨_, _, rfl, q, t⟩
  | ref l =>
    have e' : (match h[l]? with | some (.lst xs) => some xs | _ => none) = some xs := e
    cases hl : h[l]? with
    | none =>
      rw [hl] at e'
      cases e'
    | some o =>
      rw [hl] at e'
      cases o with
      | lst ys =>
        cases e'
        obtain ⟨a, vs, e1, e2, e3, r3⟩ := S.lstAt hl r
        exact ⟨a, vs, e1, e3, r3⟩
      | dead => cases e'
      | dK kvs => cases e'
      | dT kvs => cases e'
      | ins cn kvs => cases e'
  | _ => cases e
theorem lm_cat {ma mb : ME} (ha : EM X c a ma) (hb : EM X c b mb) : LM X c (.BinOp a .Add b pos) (catL ma mb) := pe_wk (pe_op op_cat ha hb) fun σ H Q ⟨W, h, s, e, S, rs, p⟩ => by
  subst e
  refine ⟨W, h, s, rfl, S, rs, p.bnd fun W1 h1 x x1 S1 p1 u r1 => ?_⟩
  refine ⟨W1, h1, s, rfl, S1, rs.mono x1, p1.bnd fun W2 h2 y x2 S2 p2 v r2 => ?_⟩
  cases hx : wlstOf h2 x with
  | none =>
    simp only [hx] at p2
    exact p2.elim
  | some xs =>
    cases hy : wlstOf h2 y with
    | none =>
      simp only [hx, hy] at p2
      exact p2.elim
    | some ys =>
      simp only [hx, hy] at p2
      by_cases q : xs.length + ys.length ≤ lim
      · rw [if_pos q] at p2
        obtain ⟨d1, vs, e1, e2, t1⟩ := wlst_sq S2 (r1.mono x2) hx
        obtain ⟨d2, ws, e3, e4, t2⟩ := wlst_sq S2 r2 hy
        exact ⟨d1, d2, vs, ws, e1, e3, e2, e4, by rw [← t1.length, ← t2.length]; exact lim_line q, fun d hd => p2 W2 (Ext.refl _) S2 _ d (t1.append t2) hd⟩
      · rw [if_neg q] at p2
        exact p2.elim
theorem RVs.rep {xs : List MV} {vs : List V} (t : RVs K W xs vs) : ∀ k : Nat, RVs K W (List.replicate k xs).flatten (List.replicate k vs).flatten
  | 0 => .nil
  | k + 1 => by
    rw [List.replicate_succ, List.replicate_succ, List.flatten_cons, List.flatten_cons]
    exact t.append (RVs.rep t k)
theorem lm_rep {ma mb : ME} (ha : EM X c a ma) (hb : EM X c b mb) : LM X c (.BinOp a .Mult b pos) (repL ma mb) := pe_wk (pe_op op_rep ha hb) fun σ H Q ⟨W, h, s, e, S, rs, p⟩ => by
  subst e
  refine ⟨W, h, s, rfl, S, rs, p.bnd fun W1 h1 x x1 S1 p1 u r1 => ?_⟩
  refine ⟨W1, h1, s, rfl, S1, rs.mono x1, p1.bnd fun W2 h2 y x2 S2 p2 v r2 => ?_⟩
  cases hx : wlstOf h2 x with
  | none =>
    simp only [hx] at p2
    exact p2.elim
  | some xs =>
    cases y <;> first | (simp only [hx] at p2; exact p2.elim) | skip
    rename_i k
    simp only [hx] at p2
    by_cases q : (k ≤ 1000000 ∧ -1000000 ≤ k) ∧ xs.length * k.toNat ≤ lim
    · rw [if_pos q] at p2
      obtain ⟨d1, vs, e1, e2, t1⟩ := wlst_sq S2 (r1.mono x2) hx
      exact ⟨d1, k, vs, e1, rv_int r2, e2, by omega, by omega, by rw [← t1.length]; exact lim_line q.2, fun d hd => p2 W2 (Ext.refl _) S2 _ d (t1.rep _) hd⟩
    · rw [if_neg q] at p2
      exact p2.elim
theorem runOf_V (a : Int) (n : Nat) : RVs K W (runOf a n) ((List.range n).map fun (i : Nat) => V.int (a + (i : Int))) := by
  unfold runOf
  induction List.range n with
  | nil => exact .nil
  | cons i l ih => exact .cons (.int _) ih
theorem rgV_of (n : Int) : rgV 0 n = (List.range n.toNat).map fun (i : Nat) => V.int (0 + (i : Int)) := by
  unfold rgV
  rw [Int.sub_zero]
theorem lm_rg {ma : ME} {p1 : Pos} (hc : X.calm = true) (hg : Gl X "list") (hm : X.mg "list" = none) (hg2 : Gl X "range") (hm2 : X.mg "range" = none) (ha : EM X c a ma) (na : starEach [a] X.env = (false, eval a X.env) :: starEach [] X.env := by rfl)
    (nb : starEach [.Call (.Name "range" p1) [a] [] p2] X.env = (false, eval (.Call (.Name "range" p1) [a] [] p2) X.env) :: starEach [] X.env := by rfl) : LM X c (.Call (.Name "list" p) [.Call (.Name "range" p1) [a] [] p2] [] pos) (rgL ma) :=
  pe_wk (pe_listRg hc hg hm (prg_1 hg2 hm2 ha na) nb) fun σ H Q ⟨W, h, s, e, S, rs, p⟩ => by
    subst e
    refine ⟨W, h, s, rfl, S, rs, p.bnd fun W1 h1 x x1 S1 p1 u r1 => ?_⟩
    cases x <;> first | exact p1.elim | skip
    rename_i n
    have p' : Pst X.K c (CL X.K Q) W1 (if n ≤ 1000000 ∧ -1000000 ≤ n then ok (runOf 0 n.toNat) h1 else none) := p1
    by_cases q : n ≤ 1000000 ∧ -1000000 ≤ n
    · rw [if_pos q] at p'
      exact ⟨n, rv_int r1, ⟨by omega, by omega, by omega, by omega, by omega⟩, fun d hd => by rw [rgV_of]; exact p' W1 (Ext.refl _) S1 _ d (runOf_V 0 _) hd⟩
    · rw [if_neg q] at p'
      exact p'.elim
theorem em_rgT {ma : ME} {p1 : Pos} (hc : X.calm = true) (hg : Gl X "tuple") (hm : X.mg "tuple" = none) (hg2 : Gl X "range") (hm2 : X.mg "range" = none) (ha : EM X c a ma) (na : starEach [a] X.env = (false, eval a X.env) :: starEach [] X.env := by rfl)
    (nb : starEach [.Call (.Name "range" p1) [a] [] p2] X.env = (false, eval (.Call (.Name "range" p1) [a] [] p2) X.env) :: starEach [] X.env := by rfl) : EM X c (.Call (.Name "tuple" p) [.Call (.Name "range" p1) [a] [] p2] [] pos) (rgT ma) :=
  pe_wk (pe_tupRg hc hg hm (prg_1 hg2 hm2 ha na) nb) fun σ H Q ⟨W, h, s, e, S, rs, p⟩ => by
    subst e
    refine ⟨W, h, s, rfl, S, rs, p.bnd fun W1 h1 x x1 S1 p1 u r1 => ?_⟩
    cases x <;> first | exact p1.elim | skip
    rename_i n
    have p' : Pst X.K c (CV X.K Q) W1 (if n ≤ 1000000 ∧ -1000000 ≤ n then ok (.tup (runOf 0 n.toNat)) h1 else none) := p1
    by_cases q : n ≤ 1000000 ∧ -1000000 ≤ n
    · rw [if_pos q] at p'
      refine ⟨n, rv_int r1, ⟨by omega, by omega, by omega, by omega, by omega⟩, fun d hd => ?_⟩
      rw [rgV_of]
      exact p' (W1.put d _) (Ext.put S1 hd) (S1.put hd) (.ref d) (.tup (S1.fresh hd) upd_same (runOf_V 0 _))
    · rw [if_neg q] at p'
      exact p'.elim
end
section
variable {α : Type} {le : α → α → Bool}
end
section
variable {X : Cx} {c : XC} {K : PySem.W.Frag} {W : Wd}
end
def spLaw (K : PySem.W.Frag) : Sp := fun vs H Q _ => ∃ (a : Addr) (ns : List Int), vs = [.ref a] ∧ SqL K H a (ns.map V.int) ∧ ns.length ≤ 63 ∧ ∀ H', Q (.bl true) H'
theorem law_start {K : PySem.W.Frag} {mg : Str → Option Value} {f : MF} (L : ∀ ns : List Int, ns.length ≤ 63 → ∃ h, f [.frz (ns.map MV.int)] [] = ok (.bl true) h) : ∀ vs H Q E, spLaw K vs H Q E → spM K mg 1 f vs H Q E := fun vs H Q E ⟨a, ns, e, hS, hl, k⟩ => by
  subst e
  have S : Sim K ⟨fun _ => none, 0, H, fun _ => False⟩ [] := ⟨rfl, fun _ _ e => (by cases e), fun _ _ _ e => (by cases e), fun _ _ e => (by cases e), fun _ _ e => (by simp at e), fun _ _ e => (by cases e), fun _ e => e.elim⟩
  have rs : RVs K ⟨fun _ => none, 0, H, fun _ => False⟩ (ns.map MV.int) (ns.map V.int) := by
    clear hl hS
    induction ns with
    | nil => exact .nil
    | cons i l ih => exact .cons (.int i) ih
  refine ⟨⟨fun _ => none, 0, H, fun _ => False⟩, [], [.frz (ns.map MV.int)], rfl, S, .cons ?_ .nil, rfl, ?_⟩
  · rcases hS with hS | hS
    · exact .frz ⟨fun _ e => (by cases e), fun e => e.elim⟩ hS rs
    · exact .frzK (fun _ => .inr hS) rs
  · obtain ⟨h, e⟩ := L ns hl
    rw [e]
    intro W1 x1 S1 v rv
    rw [rv_bl rv]
    exact k _
end Mi
set_option maxHeartbeats 2000000
namespace Mi
open PySem L2
structure Keep (P : Nat → Prop) (h h' : MH) : Prop where
  le : h.length ≤ h'.length
  at_ : ∀ j, j < h.length → ¬ P j → h'[j]? = h[j]?
theorem at_len {h : MH} {l : Nat} {o : MO} (e : h[l]? = some o) : l < h.length := (List.getElem?_eq_some_iff.mp e).1
theorem Keep.refl {P : Nat → Prop} (h : MH) : Keep P h h := ⟨Nat.le_refl _, fun _ _ _ => rfl⟩
theorem Keep.trans {P : Nat → Prop} {h h1 h2 : MH} (a : Keep P h h1) (b : Keep P h1 h2) : Keep P h h2 := ⟨Nat.le_trans a.le b.le, fun j hj hp => (b.at_ j (Nat.lt_of_lt_of_le hj a.le) hp).trans (a.at_ j hj hp)⟩
theorem Keep.get {P : Nat → Prop} {h h' : MH} (a : Keep P h h') {j : Nat} {o : MO} (e : h[j]? = some o) (hp : ¬ P j) : h'[j]? = some o := (a.at_ j (at_len e) hp).trans e
theorem Keep.set {P : Nat → Prop} {h h' : MH} {l : Nat} {o : MO} (a : Keep P h h') (hl : l < h.length → P l) : Keep P h (h'.set l o) := ⟨by rw [List.length_set]; exact a.le, fun j hj hp => by
  rw [List.getElem?_set_ne (fun z => hp (by rw [← z]; exact hl (by rw [z]; exact hj)))]
  exact a.at_ j hj hp⟩
theorem Keep.app {P : Nat → Prop} {h h' : MH} {o : MO} (a : Keep P h h') : Keep P h (h' ++ [o]) := ⟨by
  rw [List.length_append]
  exact Nat.le_trans a.le (Nat.le_add_right _ _), fun j hj hp => by
  rw [List.getElem?_append_left (Nat.lt_of_lt_of_le hj a.le)]
  exact a.at_ j hj hp⟩
theorem get_app {h : MH} {o : MO} : (h ++ [o])[h.length]? = some o := by simp
theorem get_app_left {h : MH} {o u : MO} {j : Nat} (e : h[j]? = some u) : (h ++ [o])[j]? = some u := by
  rw [List.getElem?_append_left (at_len e)]
  exact e
theorem get_set {h : MH} {o u : MO} {l : Nat} (e : h[l]? = some u) : (h.set l o)[l]? = some o := List.getElem?_set_self (at_len e)
theorem get_set_ne {h : MH} {o u : MO} {l j : Nat} (e : h[j]? = some u) (n : j ≠ l) : (h.set l o)[j]? = some u := by
  rw [List.getElem?_set_ne (Ne.symm n)]
  exact e
theorem ixN_nat {n j : Nat} (hj : j < n) : ixN n (j : Int) = some j := by
  unfold ixN
  rw [if_pos (by omega), if_pos (by omega)]
  simp
theorem nd_set : ∀ {rs : List Nat} {i a : Nat}, rs.Nodup → a ∉ rs → (rs.set i a).Nodup
  | [], _, _, _, _ => by simp
  | r :: rs, 0, a, n, q => by
    rw [List.set_cons_zero]
    exact List.nodup_cons.mpr ⟨fun z => q (List.mem_cons_of_mem _ z), (List.nodup_cons.mp n).2⟩
  | r :: rs, i + 1, a, n, q => by
    rw [List.set_cons_succ]
    refine List.nodup_cons.mpr ⟨fun z => ?_, nd_set (List.nodup_cons.mp n).2 fun z => q (List.mem_cons_of_mem _ z)⟩
    rcases List.mem_or_eq_of_mem_set z with z | z
    · exact (List.nodup_cons.mp n).1 z
    · exact q (by rw [← z]; exact List.mem_cons_self ..)
structure Mat (h : MH) (R : Nat) (rows : List (List MV)) (lo : Nat) (rs : List Nat) : Prop where
  top : h[R]? = some (.lst (rs.map MV.ref))
  len : rs.length = rows.length
  nd : rs.Nodup
  no : R ∉ rs
  loR : lo ≤ R
  lor : ∀ r ∈ rs, lo ≤ r
  row : ∀ (i r : Nat) (xs : List MV), rs[i]? = some r → rows[i]? = some xs → h[r]? = some (.lst xs)
theorem Mat.wr {h : MH} {R lo : Nat} {rows : List (List MV)} {rs : List Nat} (M : Mat h R rows lo rs) {i r : Nat} {xs ys : List MV} (er : rs[i]? = some r) (e : rows[i]? = some xs) : Mat (h.set r (MO.lst ys)) R (rows.set i ys) lo rs where
  top := get_set_ne M.top fun z => M.no (by rw [z]; exact List.mem_of_getElem? er)
  len := by
    rw [List.length_set]
    exact M.len
  nd := M.nd
  no := M.no
  loR := M.loR
  lor := M.lor
  row := fun k r' zs hr hz => by
    by_cases hk : i = k
    · subst hk
      rw [er] at hr
      cases hr
      rw [List.getElem?_set_self (List.getElem?_eq_some_iff.mp e).1] at hz
      cases hz
      exact get_set (M.row i r xs er e)
    · rw [List.getElem?_set_ne hk] at hz
      refine get_set_ne (M.row k r' zs hr hz) fun z => hk ?_
      subst z
      exact nd_ix M.nd er hr
theorem Mat.put {h : MH} {R lo : Nat} {rows : List (List MV)} {rs : List Nat} (M : Mat h R rows lo rs) {i : Nat} {ys : List MV} (hlo : lo ≤ h.length) : Mat ((h ++ [MO.lst ys]).set R (MO.lst ((rs.set i h.length).map MV.ref))) R (rows.set i ys) lo (rs.set i h.length) := by
  have new : ∀ r ∈ rs, r < h.length := fun r hr => by
    obtain ⟨i, hi⟩ := List.getElem?_of_mem hr
    obtain ⟨xs, hx⟩ : ∃ xs, rows[i]? = some xs := ⟨_, List.getElem?_eq_getElem (by rw [← M.len]; exact (List.getElem?_eq_some_iff.mp hi).1)⟩
    exact at_len (M.row i r xs hi hx)
  have nR : R ≠ h.length := Nat.ne_of_lt (at_len M.top)
  have nin : h.length ∉ rs := fun z => Nat.lt_irrefl _ (new _ z)
  refine ⟨get_set (get_app_left M.top), by rw [List.length_set, List.length_set]; exact M.len, ?_, fun z => ?_, M.loR, fun r hr => ?_, fun k r zs hr hz => ?_⟩
  · exact nd_set M.nd nin
  · rcases List.mem_or_eq_of_mem_set z with z | z
    · exact M.no z
    · exact nR z
  · rcases List.mem_or_eq_of_mem_set hr with z | z
    · exact M.lor r z
    · rw [z]
      exact hlo
  · by_cases hk : i = k
    · subst hk
      have hi : i < rs.length := by
        have := (List.getElem?_eq_some_iff.mp hr).1
        rw [List.length_set] at this
        exact this
      rw [List.getElem?_set_self hi] at hr
      rw [List.getElem?_set_self (by rw [← M.len]; exact hi)] at hz
      cases hr
      cases hz
      exact get_set_ne get_app (Ne.symm nR)
    · rw [List.getElem?_set_ne hk] at hr hz
      have e := M.row k r zs hr hz
      exact get_set_ne (get_app_left e) fun z => M.no (by rw [← z]; exact List.mem_of_getElem? hr)
theorem Mat.keep {h h' : MH} {R lo : Nat} {rows : List (List MV)} {rs : List Nat} (M : Mat h R rows lo rs) {P : Nat → Prop} (k : Keep P h h') (hP : ∀ j, P j → j < lo) : Mat h' R rows lo rs := ⟨k.get M.top fun z => absurd (hP _ z) (by have := M.loR; omega), M.len, M.nd, M.no, M.loR, M.lor,
  fun i r xs hr hx => k.get (M.row i r xs hr hx) fun z => absurd (hP _ z) (by have := M.lor r (List.mem_of_getElem? hr); omega)⟩
def flatT : MV → Bool
  | .ref _ => false
  | _ => true
theorem frzL_flat : ∀ {xs : List MV} (n : Nat) (h : MH), xs.all flatT = true → frzL (n + 1) xs h = some (xs, h)
  | [], n, h, _ => by
    unfold frzL
    rfl
  | x :: xs, n, h, e => by
    rw [List.all_cons, Bool.and_eq_true] at e
    unfold frzL
    have e1 : frzV (n + 1) x h = some (x, h) := by
      unfold frzV
      cases x <;> first | rfl | cases e.1
    rw [e1]
    dsimp only
    rw [frzL_flat n h e.2]
theorem frz_lst {h : MH} {l : Nat} {xs : List MV} (n : Nat) (e : h[l]? = some (.lst xs)) (hf : xs.all flatT = true) : frzV (n + 2) (.ref l) h = some (.fls xs, h.set l .dead) := by
  unfold frzV
  dsimp only
  rw [e]
  dsimp only
  rw [frzL_flat n h hf]
theorem frzL_rows {h : MH} {P : Nat → Prop} : ∀ {rs : List Nat} {rows : List (List MV)} {g : MH} (n : Nat), Keep P h g → (∀ r ∈ rs, r < h.length → P r) → rs.length = rows.length → rs.Nodup → (∀ (i r : Nat) (xs : List MV), rs[i]? = some r → rows[i]? = some xs → g[r]? = some (.lst xs) ∧ xs.all flatT = true) →
    ∃ g', frzL (n + 2) (rs.map MV.ref) g = some (rows.map MV.fls, g') ∧ Keep P h g' ∧ ∀ j, j ∉ rs → g'[j]? = g[j]?
  | [], [], g, n, k, _, _, _, _ => ⟨g, by unfold frzL; rfl, k, fun _ _ => rfl⟩
  | r :: rs, xs :: rows, g, n, k, hp, hl, nd, hr => by
    obtain ⟨e, f⟩ := hr 0 r xs rfl rfl
    obtain ⟨nd1, nd2⟩ := List.nodup_cons.mp nd
    obtain ⟨g', e2, k2, q2⟩ := frzL_rows (rs := rs) (rows := rows) (g := g.set r .dead) n (k.set (hp r (List.mem_cons_self ..))) (fun a ha => hp a (List.mem_cons_of_mem _ ha)) (by simpa using hl) nd2 (fun i a ys ha hy => by
      obtain ⟨e', f'⟩ := hr (i + 1) a ys (by simpa using ha) (by simpa using hy)
      exact ⟨get_set_ne e' fun z => nd1 (by rw [← z]; exact List.mem_of_getElem? ha), f'⟩)
    refine ⟨g', ?_, k2, fun j hj => ?_⟩
    · rw [List.map_cons, List.map_cons]
      unfold frzL
      rw [frz_lst n e f]
      dsimp only
      rw [e2]
    · rw [q2 j fun z => hj (List.mem_cons_of_mem _ z), List.getElem?_set_ne fun z => hj (by rw [z]; exact List.mem_cons_self ..)]
  | [], _ :: _, _, _, _, _, hl, _, _ => by simp at hl
  | _ :: _, [], _, _, _, _, hl, _, _ => by simp at hl
theorem Mat.frz {h0 h : MH} {R lo : Nat} {rows : List (List MV)} {rs : List Nat} (M : Mat h R rows lo rs) {P : Nat → Prop} (k : Keep P h0 h) (hlo : h0.length ≤ lo) (hf : ∀ xs ∈ rows, xs.all flatT = true) : ∃ h', frzV 4 (.ref R) h = some (.fls (rows.map MV.fls), h') ∧ Keep P h0 h' := by
  obtain ⟨g, e, k2, q⟩ := frzL_rows (h := h0) (P := P) (rs := rs) (rows := rows) (g := h) 1 k (fun r hr hlt => absurd (M.lor r hr) (by omega)) M.len M.nd fun i r xs hr hx => ⟨M.row i r xs hr hx, hf xs (List.mem_of_getElem? hx)⟩
  refine ⟨g.set R .dead, ?_, k2.set fun hlt => absurd M.loR (by omega)⟩
  unfold frzV
  dsimp only
  rw [M.top]
  dsimp only
  rw [e]
def tb {α : Type} (n : Nat) (F : Nat → α) : List α := (List.range n).map F
@[simp] theorem tb_len {α : Type} {n : Nat} {F : Nat → α} : (tb n F).length = n := by simp [tb]
def matV (n k : Nat) (f : Nat → Nat → Bool) : MV := .fls (tb n fun x => .fls (tb k fun y => .bl (f x y)))
end Mi
set_option maxHeartbeats 2000000
namespace Mi
open PySem L2
set_option maxHeartbeats 1000000 in
theorem enum1_meets {v : Value} {o : Obj} {Fr : Heap → Prop} (B : Begins v o Fr) :
    Meets (Builtin.«enumerate.__new__» ⟨[.type "enumerate", v], []⟩) (fun _ R s => Fr s.heap ∧ R (.ok (.ret (.ref (s.heap.push o).objs.size)))
        { s with heap := (s.heap.push o).push { cls := .type "enumerate", data := .fields #[.none, .bool false, .ref s.heap.objs.size, rawInt 0, .none, .none] } }) :=
  .of_wp fun pr wo A R st h => by
    obtain ⟨hp, g, d, tk, os⟩ := st
    obtain ⟨h1, h2⟩ := h
    have sub1 := sub_enumerate
    have it1 : ∀ {A' : Around} {E : Value → Shared → Prop} {Q : Value → Shared → Prop}, Q (.ref hp.objs.size) ⟨hp.push o, g, d, tk, os⟩ → wpAny (model pr wo) A' (pyIter v) Q E ⟨hp, g, d, tk, os⟩ := fun q => B.iter pr wo _ _ ⟨hp, g, d, tk, os⟩ _ h1 q
    wp_walk using it1
    refine wpAny_stack_any fun _ => wpAny_pure ?_
    split
    · rename_i cc _ _ _ _ _
      cases (cc == Value.type "enumerate") <;> (wp_walk using it1; exact ⟨_, rfl, h2⟩)
    · wp_walk using it1
      exact ⟨_, rfl, h2⟩
theorem enum1_call {prog : Program} {w : World} {A : Around} {E : Value → Shared → Prop} {s : Shared} {v : Value} {o : Obj} {Fr : Heap → Prop} {Q : Value → Shared → Prop} (B : Begins v o Fr) (h1 : Fr s.heap)
    (h : ∀ g, IsEnum g (s.heap.objs.size + 1) s.heap.objs.size 0 .none → g.get? s.heap.objs.size = some o → (∀ b u, s.heap.get? b = some u → g.get? b = some u) → Q (.ref (s.heap.objs.size + 1)) { s with heap := g }) :
    wpAny (model prog w) A (call (.type "enumerate") [v]) Q E s := by
  refine callType_new F.called_enumerate (by decide) (F.typeCall_enumerate_1 _) (F.newCall_enumerate_1 _) (fun obj => F.args_object_init_2 obj _) F.entry_enumerate_new (enum1_meets B) ⟨h1, ?_⟩
  have z : (s.heap.push o).objs.size = s.heap.objs.size + 1 := Heap.size_push ..
  show _ ∧ _
  rw [z]
  have e1 : IsEnum ((s.heap.push o).push { cls := .type "enumerate", data := .fields #[.none, .bool false, .ref s.heap.objs.size, rawInt 0, .none, .none] }) (s.heap.objs.size + 1) s.heap.objs.size 0 .none := by
    have q := Heap.get?_push_size (s.heap.push o) (o := { cls := .type "enumerate", data := .fields #[.none, .bool false, .ref s.heap.objs.size, rawInt 0, .none, .none] }) rfl
    rw [z] at q
    exact q
  exact ⟨⟨_, e1, rfl⟩, h _ e1 (Heap.get?_push_of_some _ (Heap.get?_push_size _ B.free)) fun b u x => Heap.get?_push_of_some _ (Heap.get?_push_of_some _ x)⟩
theorem enumT_end {prog : Program} {w : World} {A : Around} {E : Value → Shared → Prop} {s : Shared} {e it l : Addr} {i : Nat} {items : Array Value} {old : Value} {Q : Option Value → Shared → Prop} (hh : A.handled = none) (he : IsEnum s.heap e it i old)
    (hit : s.heap.IsTupleIter it l i) (hl : s.heap.IsTuple l items) (hx : items[i]? = none) (hQ : ∀ g, Heap.ExtBut it s.heap g → Q none { s with heap := g }) : wpAny (model prog w) A (pyNext (.ref e)) Q E s := by
  have ty : s.TypeIs (.ref e) "enumerate" := ⟨_, he, rfl⟩
  unfold pyNext
  refine wpAny_bind (wpAny_attempt (wpAny_callSpecial?_slot (name := Str.ofString "__next__") ty F.slot_enumerate_next (wpAny_call_entry F.slot_enumerate_next ty F.entry_enumerate_next ?_ (F.args_enumerate_next_1 _))))
  show wpAny _ _ (field (.ref e) 2 >>= _) _ _ _
  refine wpAny_bind (wpAny_field he rfl (x := .ref it) rfl (wpAny_bind (wpAny_nextOf_tuple_end hh hit hl hx fun g x eg hx' => ?_)))
  obtain ⟨o, ho, hc⟩ := hx'
  exact wpAny_bind (wpAny_isInstance (T := "StopIteration") (b := true) ⟨o, ho, hc⟩ isSubtype_stop (wpAny_pure (hQ _ eg)))
def Itu (K : PySem.W.Frag) (a : Addr) : It :=
  ⟨fun i H => ∃ (xs : List V) (x : V), SqT K H a xs ∧ xs[i]? = some x, fun i H v H' => ∃ T x, v = .ref T ∧ H T = none ∧ H' = upd H T (.tup [.int (i : Nat), x]) ∧ ∀ xs, SqT K H a xs → xs[i]? = some x, fun i H => ∃ xs : List V, SqT K H a xs ∧ xs.length ≤ i⟩
theorem turn_enumT {P : Program} {w : World} {K : PySem.W.Frag} {elts : List Expr} {kk : Nat} {tpos : Pos} (a e it : Addr) :
    Turn P w K (.Tuple elts kk tpos) (Itu K a) [e, it] e (fun i h => (∃ old, IsEnum h e it ((i : Nat) : Int) old) ∧ h.IsTupleIter it a i ∧ e ≠ it) where
  mem := by simp
  obj := fun i h st b hb => by
    obtain ⟨⟨old, he⟩, ⟨o, ho, hc, hd⟩, _⟩ := st
    rcases (show b = e ∨ b = it by simpa using hb) with z | z <;> rw [z]
    · exact ⟨_, he, fun v q => nomatch q⟩
    · exact ⟨o, ho, fun v q => by rw [hd] at q; cases q⟩
  keep := fun i h h' st k => ⟨⟨st.1.choose, k e (by simp) _ st.1.choose_spec⟩, st.2.1.at fun o q => k it (by simp) o q, st.2.2⟩
  item := by
    intro X hP hw hK hc i pins s σ H E I hf st hg
    subst hP hw hK
    obtain ⟨⟨old, he⟩, hit, hne⟩ := st
    obtain ⟨xs, x, hq, hx⟩ := hg
    obtain ⟨its, rv, p, hz⟩ := I.tuple hq
    obtain ⟨u, hu, ru⟩ := rv.get hx
    have pt : s.heap.IsTuple a its.toArray := p
    have hai : a ≠ it := fun z => by
      subst z
      obtain ⟨o1, a1, a2, _⟩ := pt
      obtain ⟨o2, b1, b2, _⟩ := hit
      rw [a1] at b1
      cases b1
      rw [a2] at b2
      exact absurd b2 (by decide)
    have hae : e ≠ a := fun z => by
      subst z
      obtain ⟨o1, a1, a2, _⟩ := pt
      have he' := he
      unfold IsEnum at he'
      rw [a1] at he'
      cases he'
      exact absurd (show Value.type "enumerate" = Value.type "tuple" from a2) (by decide)
    have hel : e < s.heap.objs.size := Heap.lt_size he
    have hil : it < s.heap.objs.size := hit.elim fun _ q => Heap.lt_size q.1
    have hlt : i < its.toArray.size := by
      have := (List.getElem?_eq_some_iff.mp hu).1
      simpa using this
    refine wpAny_pyNext_enum_itemC (Draws.tuple (A := X.A.in1) (I.ok.hd hc) it a hai its.toArray) he ⟨hit, pt⟩ hlt hne (by simp [hne, hae]) fun x' h' tk hP ho hs' hT hsz hk => ?_
    obtain rfl : x' = u := by
      have : its[i]? = some x' := by simpa using hP
      rw [hu] at this
      exact (Option.some.inj this).symm
    refine ⟨_, rfl, wpAny_letOwnedTupleGo_enum (s := { s with heap := h', toks := tk + 1 }) ho fun g he' sb => ?_⟩
    have hT2 : g.get? s.heap.objs.size = some { cls := .type "tuple", data := .seq #[.int i tk, x'] } := (sb.2 _ (Nat.ne_of_gt hel)).trans hT
    have new : ObjOk X.prog X.w (upd H s.heap.objs.size (.tup [.int (i : Nat), x])) g s.heap.objs.size (.tup [.int (i : Nat), x]) :=
      ⟨by show 2 ≤ sizeLine; decide, [.int i tk, x'], .cons ⟨_, rfl⟩ (.cons ru .nil), ⟨_, hT2, rfl, _, rfl⟩⟩
    have I1 : Inv X pins σ (upd H s.heap.objs.size (.tup [.int (i : Nat), x])) { s with heap := g, toks := tk + 1 } :=
      I.turnedNew (ch := [e, it]) (fun b ob hb q => (sb.2 b (fun z => hb (by simp [z]))).trans (hk b ob (fun z => hb (by simp [z])) (fun z => hb (by simp [z])) q)) hf (Nat.le_refl _) new
    refine ⟨.ref s.heap.objs.size, _, I1, rfl, ⟨_, x, rfl, I.hok.fresh (Nat.le_refl _), rfl, fun ys hy => by rw [I.tuple_inj hy hq]; exact hx⟩, ⟨⟨x', ?_⟩, hs'.1.at fun o q => (sb.2 it (Ne.symm hne)).trans q, hne⟩, fun b hb => ?_⟩
    · rw [show ((i + 1 : Nat) : Int) = (i : Int) + 1 by omega]
      exact he'
    · have hb' : b < s.heap.objs.size := by
        rcases (show b = e ∨ b = it by simpa using hb) with z | z <;> rw [z]
        · exact hel
        · exact hil
      rw [upd_ne (Nat.ne_of_lt hb')]
      exact (hf b hb).1
  done := by
    intro X hP hw hK hc i pins s σ H E I hf st hg
    subst hP hw hK
    obtain ⟨⟨old, he⟩, hit, hne⟩ := st
    obtain ⟨xs, hq, hx⟩ := hg
    obtain ⟨its, rv, p, hz⟩ := I.tuple hq
    have pt : s.heap.IsTuple a its.toArray := p
    obtain ⟨f0, f1, f2, f3, f4, f5⟩ := hf it (by simp)
    have hl := rv.length
    exact enumT_end (I.ok.hd hc) he hit pt (by simp; omega) fun h' eb => ⟨rfl, I.turned (t' := s.toks) (fun b o hb e => eb b o hb e) f0 f1 f3 f4 f5⟩
  self := fun A i s Q E st h => wpAny_pyIter_enum st.1.choose_spec h
def iEn (K : PySem.W.Frag) (ta : TA) : TI := fun σ H R => ta σ H fun vs H1 => ∃ a, vs = [.ref a] ∧ ((∃ xs, SqL K H1 a xs ∧ R (Ite K a) H1) ∨ ∃ xs, SqT K H1 a xs ∧ R (Itu K a) H1)
theorem pi_en {X : Cx} {e : Expr} {ta : TA} {p pos tpos : Pos} {elts : List Expr} {kk : Nat} (hg : Gl X "enumerate") (hm : X.mg "enumerate" = none) (ha : PA X [e] ta) (hs : starEach [e] X.env = [(false, eval e X.env)] := by rfl) :
    PI X (.Tuple elts kk tpos) (.Call (.Name "enumerate" p) [e] [] pos) (iEn X.K ta) := by
  refine ⟨fun pins s σ H R I h => PyProof.Rows.Call_ (ld_blt I hg hm PyProof.Rows.boot_enumerate (PyProof.Rows.callWith_type1 (thn (ha.run pos pins s σ H _ I h) fun us s1 ⟨vs, H1, I1, r1, a, ex, q1⟩ => ?_) hs rfl))⟩
  subst ex
  obtain _ | ⟨r, rr⟩ := r1
  cases rr
  cases r
  have fp : ∀ b ∈ [s1.heap.objs.size + 1, s1.heap.objs.size], FpOk X pins H1 b := fun b hb => by
    have hle : s1.heap.objs.size ≤ b := by
      rcases (show b = s1.heap.objs.size + 1 ∨ b = s1.heap.objs.size by simpa using hb) with z | z <;> omega
    exact I1.fpOk hle (I1.hok.fresh hle)
  rcases q1 with ⟨xs, hq, q⟩ | ⟨xs, hq, q⟩
  · obtain ⟨its, rv, pl, hz⟩ := I1.list hq
    refine enum1_call (begins_list a its.toArray) pl.isList fun g he hit hk => wpAny_pyIter_enum he ?_
    exact ⟨s1.heap.objs.size + 1, [s1.heap.objs.size + 1, s1.heap.objs.size], _, _, H1, rfl, I1.kept (t' := s1.toks) hk, turn_enum a (s1.heap.objs.size + 1) s1.heap.objs.size, ⟨⟨.none, he⟩, ⟨_, hit, rfl, rfl⟩, Nat.succ_ne_self _⟩, fp, q⟩
  · obtain ⟨its, rv, pl, hz⟩ := I1.tuple hq
    refine enum1_call (begins_tuple a its.toArray) (show s1.heap.IsTuple a its.toArray from pl) fun g he hit hk => wpAny_pyIter_enum he ?_
    exact ⟨s1.heap.objs.size + 1, [s1.heap.objs.size + 1, s1.heap.objs.size], _, _, H1, rfl, I1.kept (t' := s1.toks) hk, turn_enumT a (s1.heap.objs.size + 1) s1.heap.objs.size, ⟨⟨.none, he⟩, ⟨_, hit, rfl, rfl⟩, Nat.succ_ne_self _⟩, fp, q⟩
def stOf : MV → Option (List MV)
  | .tup xs => some xs
  | .ktp xs => some xs
  | .fls xs => some xs
  | .frz xs => some xs
  | _ => none
def enmOf : Nat → List MV → List MV
  | _, [] => []
  | i, x :: xs => .tup [.int (i : Int), x] :: enmOf (i + 1) xs
theorem enm_len : ∀ {i : Nat} {xs : List MV}, (enmOf i xs).length = xs.length
  | _, [] => rfl
  | i, x :: xs => by
    show (enmOf (i + 1) xs).length + 1 = xs.length + 1
    rw [enm_len]
theorem enm_get : ∀ {i k : Nat} {xs : List MV}, (enmOf i xs)[k]? = (xs[k]?).map fun x => .tup [.int ((i + k : Nat) : Int), x]
  | _, _, [] => by simp [enmOf]
  | i, 0, x :: xs => rfl
  | i, k + 1, x :: xs => by
    show (enmOf (i + 1) xs)[k]? = (xs[k]?).map _
    rw [enm_get, show i + 1 + k = i + (k + 1) by omega]
@[simp ↓] def enmF (xs : List MV) (h : MH) : Res MIter := match xs with
  | [x] => match stOf x with
    | some ys => ok (.st (enmOf 0 ys)) h
    | none => match x with
      | .ref l => match h[l]? with
        | some (.lst xs) => ok (.enm l (xs.length + 1)) h
        | _ => none
      | _ => none
  | _ => none
@[simp ↓] def enmI (m : MM (List MV)) : MM MIter := fun s h => (m s h).bnd enmF
section
variable {X : Cx} {c : XC} {K : PySem.W.Frag} {W : Wd}
theorem jr_enL {x : MV} {u : V} {xs : List MV} {h : MH} (S : Sim K W h) (r : RV K W x u) (hx : x = .fls xs ∨ x = .frz xs) : ∃ a, u = .ref a ∧ (∃ vs, SqL K W.H a vs) ∧ JR K W (.st (enmOf 0 xs)) (Ite K a) := by
  have go : ∀ (W' : Wd), Ext W W' → ∀ h', Sim K W' h' → ∃ a vs, u = .ref a ∧ SqL K W'.H a vs ∧ RVs K W' xs vs := fun W' x' h' S' => by
    have r' := r.mono x'
    rcases hx with e | e <;> subst e <;> exact lst_sq (h := h') S' r' rfl
  obtain ⟨a, vs, e1, e2, t⟩ := go W (Ext.refl W) h S
  refine ⟨a, e1, ⟨vs, e2⟩, fun i W' h' x' S' => ?_⟩
  obtain ⟨b, ws, f1, f2, t'⟩ := go W' x' h' S'
  rw [e1] at f1
  cases f1
  refine ⟨fun y hy => ?_, fun hi => ⟨ws, f2, by rw [← t'.length, ← enm_len (i := 0)]; exact hi⟩⟩
  rw [enm_get] at hy
  cases hx0 : xs[i]? with
  | none =>
    rw [hx0] at hy
    cases hy
  | some x0 =>
    rw [hx0] at hy
    cases hy
    obtain ⟨v, hv, rv⟩ := t'.get hx0
    refine ⟨⟨ws, v, f2, hv⟩, fun v2 H2 ⟨T, z, e, hT, eh, y2⟩ => ?_⟩
    have q := y2 ws f2
    rw [hv] at q
    cases q
    subst e
    subst eh
    exact enm_yld S' hT rv
theorem jr_enT {x : MV} {u : V} {xs : List MV} {h : MH} (S : Sim K W h) (r : RV K W x u) (hx : x = .tup xs ∨ x = .ktp xs) : ∃ a, u = .ref a ∧ (∃ vs, SqT K W.H a vs) ∧ JR K W (.st (enmOf 0 xs)) (Itu K a) := by
  have sq : ∀ {W' : Wd}, RV K W' x u → ∃ p vs, u = .ref p ∧ SqT K W'.H p vs ∧ RVs K W' xs vs := fun r => by
    rcases hx with e | e <;> subst e
    · exact tup_sq r
    · exact ktp_sq r
  obtain ⟨a, vs, e1, e2, t⟩ := sq r
  refine ⟨a, e1, ⟨vs, e2⟩, fun i W' h' x' S' => ?_⟩
  obtain ⟨b, ws, f1, f2, t'⟩ := sq (r.mono x')
  rw [e1] at f1
  cases f1
  refine ⟨fun y hy => ?_, fun hi => ⟨ws, f2, by rw [← t'.length, ← enm_len (i := 0)]; exact hi⟩⟩
  rw [enm_get] at hy
  cases hx0 : xs[i]? with
  | none =>
    rw [hx0] at hy
    cases hy
  | some x0 =>
    rw [hx0] at hy
    cases hy
    obtain ⟨v, hv, rv⟩ := t'.get hx0
    refine ⟨⟨ws, v, f2, hv⟩, fun v2 H2 ⟨T, z, e, hT, eh, y2⟩ => ?_⟩
    have q := y2 ws f2
    rw [hv] at q
    cases q
    subst e
    subst eh
    exact enm_yld S' hT rv
theorem im_enm {e : Expr} {m : MM (List MV)} {p pos tpos : Pos} {elts : List Expr} {kk : Nat} (hg : Gl X "enumerate") (hm : X.mg "enumerate" = none) (ha : AM X c [e] m) (hs : starEach [e] X.env = [(false, eval e X.env)] := by rfl) :
    IM X c (.Tuple elts kk tpos) (.Call (.Name "enumerate" p) [e] [] pos) (enmI m) := pi_wk (pi_en hg hm ha hs) fun σ H R ⟨W, h, s, e, S, rs, p⟩ => by
  subst e
  refine ⟨W, h, s, rfl, S, rs, p.bnd fun W1 h1 xs x1 S1 p1 vs r1 => ?_⟩
  match xs, vs, r1, p1 with
  | [x], [v], .cons r .nil, p1 =>
    cases x with
    | tup ys =>
      have p2 : Pst X.K c (CI X.K R) W1 (ok (.st (enmOf 0 ys)) h1) := p1
      obtain ⟨a, e1, ⟨vs, e2⟩, j⟩ := jr_enT S1 r (.inl rfl)
      exact ⟨a, by rw [e1], .inr ⟨vs, e2, Pst.now p2 S1 _ j⟩⟩
    | ktp ys =>
      have p2 : Pst X.K c (CI X.K R) W1 (ok (.st (enmOf 0 ys)) h1) := p1
      obtain ⟨a, e1, ⟨vs, e2⟩, j⟩ := jr_enT S1 r (.inr rfl)
      exact ⟨a, by rw [e1], .inr ⟨vs, e2, Pst.now p2 S1 _ j⟩⟩
    | fls ys =>
      have p2 : Pst X.K c (CI X.K R) W1 (ok (.st (enmOf 0 ys)) h1) := p1
      obtain ⟨a, e1, ⟨vs, e2⟩, j⟩ := jr_enL S1 r (.inl rfl)
      exact ⟨a, by rw [e1], .inl ⟨vs, e2, Pst.now p2 S1 _ j⟩⟩
    | frz ys =>
      have p2 : Pst X.K c (CI X.K R) W1 (ok (.st (enmOf 0 ys)) h1) := p1
      obtain ⟨a, e1, ⟨vs, e2⟩, j⟩ := jr_enL S1 r (.inr rfl)
      exact ⟨a, by rw [e1], .inl ⟨vs, e2, Pst.now p2 S1 _ j⟩⟩
    | ref l =>
      have p3 : Pst X.K c (CI X.K R) W1 (match h1[l]? with
        | some (.lst xs) => ok (.enm l (xs.length + 1)) h1
        | _ => none) := p1
      cases hl : h1[l]? with
      | none =>
        rw [hl] at p3
        exact p3.elim
      | some o =>
        rw [hl] at p3
        cases o with
        | dead => exact p3.elim
        | dK kvs => exact p3.elim
        | dT kvs => exact p3.elim
        | ins cn kvs => exact p3.elim
        | lst ys =>
          obtain ⟨a, e1, ea, vs, e3, t⟩ := S1.at hl (by intro z; cases z) r
          exact ⟨a, by rw [e1], .inl ⟨vs, .inl (.inl e3), Pst.now p3 S1 _ ⟨a, ea, rfl⟩⟩⟩
    | _ => exact p1.elim
  | [], _, _, p1 => exact p1.elim
  | _ :: _ :: _, _, _, p1 => exact p1.elim
end
end Mi
set_option maxHeartbeats 2000000
namespace Mi
open PySem L2
def keyOf : MV → Option Key
  | .int i => some (.inl i)
  | .str x => some (.inr x)
  | _ => none
def valM {κ : Type} [DecidableEq κ] (kvs : List (κ × MV)) (k : κ) : Option MV := (kvs.find? fun p => decide (p.1 = k)).map (·.2)
def putM {κ : Type} [DecidableEq κ] (kvs : List (κ × MV)) (k : κ) (v : MV) : List (κ × MV) :=
  if (kvs.any fun p => decide (p.1 = k)) = true then kvs.map (fun p => if p.1 = k then (p.1, v) else p) else kvs ++ [(k, v)]
section
variable {K : PySem.W.Frag} {W : Wd}
theorem key_V {x : MV} {v : V} {k : Key} (r : RV K W x v) (e : keyOf x = some k) : v = kV k := by
  cases x <;> first | (cases e; done) | skip
  · cases e
    rw [rv_int r]
    rfl
  · cases e
    cases r
    rfl
theorem RKV.length {κ : Type} : ∀ {ms : List (κ × MV)} {vs : List (κ × V)}, RKV K W ms vs → ms.length = vs.length
  | _, _, .nil => rfl
  | _, _, .cons _ t => by rw [List.length_cons, List.length_cons, RKV.length t]
theorem RKV.val {κ : Type} [DecidableEq κ] (k : κ) : ∀ {ms : List (κ × MV)} {vs : List (κ × V)}, RKV K W ms vs → (∀ x, valM ms k = some x → ∃ v, valV vs k = some v ∧ RV K W x v) ∧ (valM ms k).isSome = (valV vs k).isSome
  | _, _, .nil => ⟨fun x e => (nomatch e), rfl⟩
  | _, _, .cons (k := j) (x := y) (xs := ms) (vs := vs) r t => by
    obtain ⟨a, b⟩ := RKV.val k t
    by_cases h : j = k
    · have e : valM ((j, y) :: ms) k = some y := by simp [valM, List.find?_cons, h]
      rw [e, valV_pos h]
      exact ⟨fun x z => (by cases z; exact ⟨_, rfl, r⟩), rfl⟩
    · have e : valM ((j, y) :: ms) k = valM ms k := by simp [valM, List.find?_cons, h]
      rw [e, valV_neg h]
      exact ⟨a, b⟩
theorem RKV.any {κ : Type} [DecidableEq κ] (k : κ) : ∀ {ms : List (κ × MV)} {vs : List (κ × V)}, RKV K W ms vs → (ms.any fun p => decide (p.1 = k)) = vs.any fun p => decide (p.1 = k)
  | _, _, .nil => rfl
  | _, _, .cons r t => by rw [List.any_cons, List.any_cons, RKV.any k t]
theorem RKV.app {κ : Type} {k : κ} {x : MV} {v : V} (r : RV K W x v) : ∀ {ms : List (κ × MV)} {vs : List (κ × V)}, RKV K W ms vs → RKV K W (ms ++ [(k, x)]) (vs ++ [(k, v)])
  | _, _, .nil => .cons r .nil
  | _, _, .cons q t => .cons q (RKV.app r t)
theorem RKV.repl {κ : Type} [DecidableEq κ] {k : κ} {x : MV} {v : V} (r : RV K W x v) : ∀ {ms : List (κ × MV)} {vs : List (κ × V)}, RKV K W ms vs → RKV K W (ms.map fun p => if p.1 = k then (p.1, x) else p) (vs.map fun p => if p.1 = k then (p.1, v) else p)
  | _, _, .nil => .nil
  | _, _, .cons (k := j) q t => by
    rw [List.map_cons, List.map_cons]
    by_cases h : j = k
    · rw [if_pos h, if_pos h]
      exact .cons r (RKV.repl r t)
    · rw [if_neg h, if_neg h]
      exact .cons q (RKV.repl r t)
theorem RKV.put {κ : Type} [DecidableEq κ] {k : κ} {x : MV} {v : V} {ms : List (κ × MV)} {vs : List (κ × V)} (t : RKV K W ms vs) (r : RV K W x v) : RKV K W (putM ms k x) (putK vs k v) := by
  unfold putM putK
  rw [t.any k]
  by_cases h : (vs.any fun p => decide (p.1 = k)) = true
  · rw [if_pos h, if_pos h]
    exact t.repl r
  · rw [if_neg h, if_neg h]
    exact t.app r
theorem Sim.dictAt {h : MH} (S : Sim K W h) {l : Nat} {kvs : List (Key × MV)} {v : V} (e : h[l]? = some (.dK kvs)) (r : RV K W (.ref l) v) : ∃ a kws, v = .ref a ∧ W.f l = some a ∧ W.H a = some (.dK kws) ∧ RKV K W kvs kws := by
  obtain ⟨a, e1, e2, kws, e3, t⟩ := S.at e (by intro z; cases z) r
  exact ⟨a, kws, e1, e2, e3, t⟩
end
@[simp ↓] def dgetF (x y : MV) (h : MH) : Res MV := match x with
  | .ref l => match h[l]?, keyOf y with
    | some (.dK kvs), some k => match valM kvs k with
      | some v => ok v h
      | none => none
    | _, _ => none
  | _ => none
@[simp ↓] def dinF (y x : MV) (h : MH) : Res MV := match x with
  | .ref l => match h[l]?, keyOf y with
    | some (.dK kvs), some k => ok (.bl (valM kvs k).isSome) h
    | _, _ => none
  | _ => none
@[simp ↓] def dninF (y x : MV) (h : MH) : Res MV := match x with
  | .ref l => match h[l]?, keyOf y with
    | some (.dK kvs), some k => ok (.bl (!(valM kvs k).isSome)) h
    | _, _ => none
  | _ => none
section
variable {X : Cx} {c : XC} {K : PySem.W.Frag} {W : Wd} {o i : Expr} {pos : Pos}
theorem dict_key {h : MH} {l : Nat} {y : MV} {u v : V} {kvs : List (Key × MV)} {k : Key} (S : Sim K W h) (r : RV K W (.ref l) v) (ry : RV K W y u) (e : h[l]? = some (.dK kvs)) (ek : keyOf y = some k) :
    ∃ a kws, v = .ref a ∧ DGet W.H a u (valV kws k) ∧ RKV K W kvs kws := by
  obtain ⟨a, kws, e1, e2, e3, t⟩ := S.dictAt e r
  refine ⟨a, kws, e1, ?_, t⟩
  rw [key_V ry ek]
  exact DGet.k e3
theorem em_dget {mo mi : ME} (hu : X.A.units + 64 < cLine) (ho : EM X c o mo) (hi : EM X c i mi) (hs : NoSl i) : EM X c (.Subscript o i pos) (opM dgetF mo mi) := pe_wk (pe_dget (by omega) ho hi hs) fun σ H Q ⟨W, h, s, e, S, rs, p⟩ => by
  subst e
  refine ⟨W, h, s, rfl, S, rs, p.bnd fun W1 h1 x x1 S1 p1 v r1 => ?_⟩
  refine ⟨W1, h1, s, rfl, S1, rs.mono x1, p1.bnd fun W2 h2 y x2 S2 p2 u r2 => ?_⟩
  unfold dgetF at p2
  cases x <;> first | exact p2.elim | skip
  rename_i l
  dsimp only at p2
  cases hl : h2[l]? with
  | none =>
    rw [hl] at p2
    exact p2.elim
  | some ob =>
    cases hk : keyOf y with
    | none =>
      rw [hl, hk] at p2
      cases ob <;> exact p2.elim
    | some k =>
      rw [hl, hk] at p2
      cases ob <;> first | exact p2.elim | skip
      rename_i kvs
      obtain ⟨a, kws, e1, g, t⟩ := dict_key S2 (r1.mono x2) r2 hl hk
      dsimp only at p2
      cases hv : valM kvs k with
      | none =>
        rw [hv] at p2
        exact p2.elim
      | some z =>
        rw [hv] at p2
        obtain ⟨w, e2, rw'⟩ := (t.val k).1 z hv
        rw [e2] at g
        exact ⟨a, w, e1, g, Pst.now p2 S2 _ rw'⟩
end
def dcS (g : MV → MS → Option MS) (cd : MM Bool) (ke ve : ME) (s0 : MS) (l : Nat) : List MV → MH → Res MV
  | [], h => ok (.ref l) h
  | x :: xs, h => match g x s0 with
    | none => none
    | some s1 => (cd s1 h).bnd fun b h1 => if b = true then (ke s1 h1).bnd fun y h2 => (ve s1 h2).bnd fun z h3 => match keyOf y, h3[l]? with
        | some k, some (.dK kvs) => if kvs.length < lim then dcS g cd ke ve s0 l xs (h3.set l (.dK (putM kvs k z))) else none
        | _, _ => none
      else dcS g cd ke ve s0 l xs h1
@[simp ↓] def dcM (mi : MM MIter) (vs : List Nat) (g : MV → MS → Option MS) (cd : MM Bool) (ke ve : ME) : ME := fun s h => (mi s h).bnd fun it h1 => match it with
  | .st its => dcS g cd ke ve (wipeM s vs) h1.length its (h1 ++ [.dK []])
  | _ => none
section
variable {X : Cx} {c : XC}
end
end Mi
set_option maxHeartbeats 2000000
namespace Mi
open PySem L2
@[simp ↓] def ltAF (x y : MV) (h : MH) : Res MV := match x, y with
  | .int i, .int j => ok (.bl (decide (i < j))) h
  | .tup xs, .tup ys => match intsOf xs, intsOf ys with
    | some a, some b => ok (.bl (HT.lexLt a b)) h
    | _, _ => none
  | _, _ => none
def rLtA (K : PySem.W.Frag) : R2 := fun x y H Q => rI0 (fun i j => .bl (decide (i < j))) x y H Q ∨ rLtT K x y H Q
section
variable {X : Cx} {c : XC} {K : PySem.W.Frag}
theorem op_ltA (hu : X.A.units + 64 < cLine) : OpR X (compareOp .Lt) (rLtA X.K) := OpR.or op_lt (op_ltT (by omega))
theorem opm_ltA : OpM K c (rLtA K) ltAF := fun W h x y u v Q S r1 r2 p => by
  cases x <;> first | exact p.elim | skip
  · rename_i i
    cases y <;> first | exact p.elim | skip
    rename_i j
    exact .inl (opm_lt W h (.int i) (.int j) u v Q S r1 r2 p)
  · rename_i xs
    cases y <;> first | exact p.elim | skip
    rename_i ys
    have p' : Pst K c (CV K Q) W (match intsOf xs, intsOf ys with | some a, some b => ok (.bl (HT.lexLt a b)) h | _, _ => none) := p
    cases hx : intsOf xs with
    | none =>
      rw [hx] at p'
      exact p'.elim
    | some ns =>
      cases hy : intsOf ys with
      | none =>
        rw [hx, hy] at p'
        exact p'.elim
      | some ms =>
        rw [hx, hy] at p'
        obtain ⟨a, vs, e1, s1, t1⟩ := tup_sq r1
        obtain ⟨b, ws, e2, s2, t2⟩ := tup_sq r2
        have f1 := (ints_V t1 hx).1
        have f2 := (ints_V t2 hy).1
        subst f1
        subst f2
        exact .inr ⟨a, b, ns, ms, e1, e2, s1, s2, Pst.now p' S _ (.bl _)⟩
end
end Mi
set_option maxHeartbeats 2000000
namespace Mi
open PySem L2
def liS (g : MV → MS → Option MS) (cd : MM Bool) (el : ME) (s0 : MS) (l : Nat) (k : MH → Res MV) : List MV → MH → Res MV
  | [], h => k h
  | x :: xs, h => match g x s0 with
    | none => none
    | some s1 => (cd s1 h).bnd fun b h1 => if b = true then (el s1 h1).bnd fun y h2 => match h2[l]? with
        | some (.lst zs) => if zs.length < lim then liS g cd el s0 l k xs (h2.set l (.lst (zs ++ [y]))) else none
        | _ => none
      else liS g cd el s0 l k xs h1
def lc2S (g : MV → MS → Option MS) (cd : MM Bool) (mi1 : MM MIter) (vs1 : List Nat) (g1 : MV → MS → Option MS) (cd1 : MM Bool) (el : ME) (s0 : MS) (l : Nat) : List MV → MH → Res MV
  | [], h => ok (.ref l) h
  | x :: xs, h => match g x s0 with
    | none => none
    | some s1 => (cd s1 h).bnd fun b h1 => if b = true then (mi1 s1 h1).bnd fun it h2 => (match it with
      | .st its => liS g1 cd1 el (wipeM s1 vs1) l (lc2S g cd mi1 vs1 g1 cd1 el s0 l xs) its h2
      | _ => none) else lc2S g cd mi1 vs1 g1 cd1 el s0 l xs h1
@[simp ↓] def lc2M (mi : MM MIter) (vs : List Nat) (g : MV → MS → Option MS) (cd : MM Bool) (mi1 : MM MIter) (vs1 : List Nat) (g1 : MV → MS → Option MS) (cd1 : MM Bool) (el : ME) : ME := fun s h => (mi s h).bnd fun it h1 => match it with
  | .st its => lc2S g cd mi1 vs1 g1 cd1 el (wipeM s vs) h1.length its (h1 ++ [.lst []])
  | _ => none
section
variable {X : Cx} {c : XC}
@[simp ↓] def unpL (is : List Nat) : MV → MS → Option MS := fun x s => match x with
  | .fls xs => putAll is xs s
  | _ => none
@[simp ↓] def bitsM (m : ME) : ME := fun s h => (m s h).bnd fun x h1 => match x with
  | .int i => ok (.int (Builtin.Int.intBits i : Nat)) h1
  | _ => none
end
end Mi
set_option maxHeartbeats 2000000
namespace Mi
open PySem L2
theorem run_nat {n : Nat} : runOf 0 n = (List.range n).map fun (i : Nat) => MV.int (i : Int) := by
  unfold runOf
  exact List.map_congr_left fun i _ => by rw [Int.zero_add]
end Mi
namespace Mi
theorem Mat.push {h : MH} {R lo : Nat} {rows : List (List MV)} {rs : List Nat} (M : Mat h R rows lo rs) {ys : List MV} (hlo : lo ≤ h.length) : Mat ((h ++ [MO.lst ys]).set R (MO.lst (rs.map MV.ref ++ [MV.ref h.length]))) R (rows ++ [ys]) lo (rs ++ [h.length]) := by
  have new : ∀ r ∈ rs, r < h.length := fun r hr => by
    obtain ⟨i, hi⟩ := List.getElem?_of_mem hr
    obtain ⟨xs, hx⟩ : ∃ xs, rows[i]? = some xs := ⟨_, List.getElem?_eq_getElem (by rw [← M.len]; exact (List.getElem?_eq_some_iff.mp hi).1)⟩
    exact at_len (M.row i r xs hi hx)
  have nR : R ≠ h.length := Nat.ne_of_lt (at_len M.top)
  have nin : h.length ∉ rs := fun z => Nat.lt_irrefl _ (new _ z)
  refine ⟨?_, by rw [List.length_append, List.length_append, M.len]; rfl, ?_, fun z => ?_, M.loR, fun r hr => ?_, fun k r zs hr hz => ?_⟩
  · rw [get_set (get_app_left M.top), List.map_append]
    rfl
  · refine List.nodup_append.mpr ⟨M.nd, List.nodup_cons.mpr ⟨(fun z => nomatch z), List.nodup_nil⟩, fun a ha b hb e => ?_⟩
    obtain rfl := List.mem_singleton.mp hb
    exact nin (e ▸ ha)
  · rcases List.mem_append.mp z with z | z
    · exact M.no z
    · exact nR (List.mem_singleton.mp z)
  · rcases List.mem_append.mp hr with z | z
    · exact M.lor r z
    · rw [List.mem_singleton.mp z]
      exact hlo
  · by_cases hk : k < rs.length
    · rw [List.getElem?_append_left hk] at hr
      rw [List.getElem?_append_left (by rw [← M.len]; exact hk)] at hz
      exact get_set_ne (get_app_left (M.row k r zs hr hz)) fun z => M.no (by rw [← z]; exact List.mem_of_getElem? hr)
    · have e : k = rs.length := by
        have := (List.getElem?_eq_some_iff.mp hr).1
        rw [List.length_append] at this
        have t : k < rs.length + 1 := this
        omega
      subst e
      rw [List.getElem?_append_right (Nat.le_refl _), Nat.sub_self] at hr
      rw [List.getElem?_append_right (by rw [M.len]; exact Nat.le_refl _), M.len, Nat.sub_self] at hz
      cases hr
      cases hz
      exact get_set_ne get_app (Ne.symm nR)
end Mi
set_option maxHeartbeats 2000000
namespace Mi
open PySem L2
@[simp ↓] def insF (x : MV) (ys : List MV) (h : MH) : Res MV := match x, ys with
  | .ref l, [.int i, y] => match h[l]? with
    | some (.lst xs) => if xs.length < lim ∧ 0 ≤ i ∧ i ≤ 1000000 then ok .non (h.set l (.lst (xs.take i.toNat ++ [y] ++ xs.drop i.toNat))) else none
    | _ => none
  | _, _ => none
def inDB (h : MH) (x y : MV) : Option Bool := match pyOf x, (seqOf h y).bind pysOf with
  | some d, some ds => if SeqAt.shaped d = true ∧ SeqAt.shaped (.list ds) = true then some (ds.any fun z => PyData.eqv z d) else none
  | _, _ => none
@[simp ↓] def inDF (x y : MV) (h : MH) : Res MV := match inDB h x y with
  | some b => ok (.bl b) h
  | none => none
@[simp ↓] def ninDF (x y : MV) (h : MH) : Res MV := match inDB h x y with
  | some b => ok (.bl (!b)) h
  | none => none
section
variable {X : Cx} {c : XC} {K : PySem.W.Frag} {W : Wd}
end
end Mi
set_option maxHeartbeats 2000000
namespace Mi
open PySem L2
@[simp ↓] def callX (f : MF) (ds : List MV) (a : MM (List MV)) : ME := fun s h => (a s h).bnd fun xs h1 => f (xs ++ ds) h1
@[simp ↓] def callKX (f : MF) (n k : Nat) (is : List Nat) (ds : List MV) (a kw : MM (List MV)) : ME := fun s h => (a s h).bnd fun xs h1 => (kw s h1).bnd fun zs h2 => if xs.length = n ∧ zs.length = k then f (pick is (xs ++ zs ++ ds)) h2 else none
section
variable {X : Cx} {c : XC} {E : XK} {k : Nat} {f : Addr} {fd : FuncData} {ps : List Str} {ds : List Value} {dvs : List V} {dms : List MV} {x : Str} {p pos : Pos} {e : Expr} {es : List Expr} {m : MM (List MV)} {np : Nat} {fM : MF}
end
section
variable {P : Program} {w : World} {K : PySem.W.Frag} {mg : Str → Option Value} {base : Heap}
end
@[simp ↓] def raiseS (cls : Str) (fns : List Str) (a : MM (List MV)) : MT := fun s h => bndS (a s h) fun xs h1 => if xs.length = fns.length then some (.ex ⟨cls, fns.zip xs⟩ h1) else none
section
variable {X : Cx} {E : XK} {e : Expr} {pos : Pos} {cls : Str} {C : Addr}
end
end Mi
set_option maxHeartbeats 2000000
namespace Mi
open PySem L2
@[simp ↓] def wipeR (i : Nat) : Option OutS → Option OutS
  | some (.nx s h) => some (.nx (s.set i none) h)
  | some (.ret x h) => some (.ret x h)
  | some (.brk s h) => some (.brk (s.set i none) h)
  | some (.cnt s h) => some (.cnt (s.set i none) h)
  | _ => none
@[simp ↓] def tryO (body : MT) (tab : List (Str × Bool)) (n : Nat) (suite : MT) : MT := fun s h => match body s h with
  | some (.ex e h1) => match tab.lookup e.cls with
    | some true => match suite (List.replicate n none) h1 with
      | some (.ex _ _) => none
      | r => r
    | some false => some (.ex e h1)
    | none => none
  | r => r
section
variable {X : Cx} {E : XK} {body suite : List Stmt} {b₀ : Stmt} {np pos pos' : Pos} {x y : Str} {cv : Value} {i : Nat} {tab : List (Str × Bool)} {mb : MT}
end
end Mi
set_option maxHeartbeats 2000000
namespace Mi
open PySem L2
@[simp ↓] def xfM (i : Nat) (a : Addr) (d : Option Addr) (f : Str) : ME := fun s h => match slot s i with
  | some (.exc a' d' fns xs) => if a' = a ∧ d' = d then (match (fns.zip xs).lookup f with
    | some v => ok v h
    | none => none) else none
  | _ => none
@[simp ↓] def optB (o : Option Bool) (h : MH) : Res MV := match o with
  | some b => ok (.bl b) h
  | none => none
@[simp ↓] def isE (i : Nat) (a : Addr) (d : Option Addr) (o : Option Bool) : ME := fun s h => match slot s i with
  | some (.exc a' d' fns xs) => if a' = a ∧ d' = d then optB o h else none
  | _ => none
structure KitE (K : PySem.W.Frag) (C : Addr) : Prop where
  cl : (PySem.W.clsIn K C).isSome = true
  ga : PySem.W.findIn K (.ref C) "__getattribute__" = some (some (.builtin "BaseException.__getattribute__"))
  gg : PySem.W.findIn K (.ref C) "__getattr__" = some none
  sb : PySem.W.subIn K (.ref C) (.type "BaseException") = some true
  ca : PySem.W.findIn K (.ref C) "__class__" = some (some (.builtin "object.__class__"))
  sg : PySem.W.specialIn K (.builtin "object.__class__") "__get__" = some (some (.builtin "getset_descriptor.__get__"))
  tk : PySem.W.takesIn K (.builtin "object.__class__") = some true
  mo : PySem.W.mroIn K C (.type "object") = some true
section
variable {X : Cx} {c : XC} {a C : Addr} {oe : Obj} {d : Option Addr} {pn : List (Addr × Obj)} {i : Nat} {y : Str} {pos p p2 p3 : Pos}
end
end Mi
set_option maxHeartbeats 4000000
namespace Mi
open PySem L2 PySem.W PySem.Calls PyProof.Rows PySem.HandSPX
def supS (f : Str) : Scope where
  kind := .function
  names := [(Str.ofString "self", .local), (f, .local), (Str.ofString "__class__", .free), (Str.ofString "super", .globalImplicit)]
  isGenerator := false
  isCoroutine := false
  more := []
structure SupTx (f : Str) (ist : Stmt) : Prop where
  body : ∃ msg j p0 p1 p2 p3 p4 p5 q1 q2 q3 q4, defBody ist = [.Expr (.Call (.Attribute (.Call (.Name "super" p0) [] [] p1) "__init__" p2) [.Constant (.str msg) j p3] [] p4) p5, .Assign [.Attribute (.Name "self" q1) f q2] (.Name f q3) q4] ∧
    ∃ pl : Sem Bool, ∀ (qual : Str) (L a : Addr) (cd : Value) (cc : Addr), eval (.Call (.Attribute (.Call (.Name "super" p0) [] [] p1) "__init__" p2) [.Constant (.str msg) j p3] [] p4) (ksEnv qual (supS f) L a cd cc) = (do
      let ov ← attributeBase (.Call (.Name "super" p0) [] [] p1) "__init__" (ksEnv qual (supS f) L a cd cc) (eval (.Call (.Name "super" p0) [] [] p1) (ksEnv qual (supS f) L a cd cc))
      standAt p2.atName
      let (fx, first) ← holding [ov] (getMethod ov "__init__" pl)
      callWith p4 fx first (backTo p4 (starEach [.Constant (.str msg) j p3] (ksEnv qual (supS f) L a cd cc))) [])
  head : ∃ ar, ((defArgs ist).posonlyargs ++ (defArgs ist).args).head? = some ar ∧ ar.arg = "self"
  bind : ∀ (s : Shared) (qual : Str) (kV doc pm : Value) (an : Option Addr) (cd ct : Value) (cc : Addr) (x v : Value), BindsTo s (ksFn "__init__" qual (defArgs ist) (defBody ist) (supS f) .none kV doc pm an cd ct cc) ⟨[x, v], []⟩ [("self", x), (f, v)]
  self : (supS f).names.lookup ("self" : Str) = some .local
  fld : (supS f).names.lookup f = some .local
  cls : (supS f).names.lookup ("__class__" : Str) = some .free
  sup : (supS f).names.lookup ("super" : Str) = some .globalImplicit
  nocell : ∀ x ∈ (supS f).names, x.2 ≠ .cell
  ne : f ≠ "self"
  nd : (f == ("__debug__" : Str)) = false
structure SupTxt (P : Program) (K : Frag) (mg : Str → Option Value) (cls qual f : Str) (ist : Stmt) (C fI : Addr) : Prop where
  gC : mg cls = some (.ref C)
  nsup : mg "super" = none
  cl : ∃ nm q N bs bm sn sub ab col dd k0 k1 k2 k3 k5, K.lookup C = some (excClassObj nm q C N bs bm true sn sub ab col dd k0 k1 k2 k3 k5 "ValueError.__new__") ∧ refsVE bm = true
  xi : excInitIn K C veTail "ValueError.__new__" = true
  sa : findIn K (.ref C) "__setattr__" = some (some (.builtin "object.__setattr__"))
  noN : findIn K (.ref C) f = some none
  iC : findIn K (.ref C) "__init__" = some (some (.ref fI))
  tI : typeIn K (.ref fI) = some (.type "function")
  kC : keepIn K (.ref C) = true
  exC : subIn K (.ref C) (.type "BaseException") = some true
  veC : subIn K (.ref C) (.type "ValueError") = some true
  tyC : typeIn K (.ref C) = some (.type "type")
  su : ks_superIn K C C "__init__" = some (some (.builtin "ValueError.__init__"))
  op : nsIn K cStatics "thirdparty.any" = some none
  mo : mroIn K C (.ref C) = some true
  fn : ∃ oc od kV doc pm an cda ct osl cc, K.lookup fI = some ⟨oc, od, .func (ksFn "__init__" qual (defArgs ist) (defBody ist) (supS f) .none kV doc pm an (.ref cda) ct cc), osl⟩ ∧ codeIn K (.ref cda) qual = true ∧
    (∃ ccl cdd vs ccs file tf, K.lookup cda = some ⟨ccl, cdd, .fields vs, ccs⟩ ∧ vs[2]? = some (.str file tf) ∧ ((P.main.file : Str) == file) = true) ∧ ∃ l ld lsl, K.lookup cc = some ⟨l, ld, .cell (some (.ref C)), lsl⟩
  top : (P.main.scope.names.lookup ("super" : Str)).isSome = false
structure SupMade (h h' : Heap) (e C d : Addr) (f : Str) (v : Value) : Prop where
  keep : ∀ b o, h.get? b = some o → h'.get? b = some o
  new : h.objs.size ≤ e
  obj : ∃ t1 : Addr, h'.get? e = some { cls := .ref C, dict := some d, data := .fields #[.ref t1, .none, .none, .none, .bool false, .none] }
  dbig : h.objs.size ≤ d
  dne : d ≠ e
  ns : h'.Ns1 d (fun y => if y = f then some v else none)
section
variable {P : Program} {w : World} {A : Around} {R : Result → Shared → Prop} {s : Shared} {K : Frag} {mg : Str → Option Value} {cls qual f : Str} {ist : Stmt} {C fI : Addr}
end
section
variable {X : Cx} {cls qual f : Str} {ist : Stmt} {C fI : Addr} {a : Expr} {ta : TA} {p pos : Pos} {k : Nat}
end
end Mi
set_option maxHeartbeats 2000000
namespace Mi
open PySem L2
structure ErrC (K : PySem.W.Frag) (mg : Str → Option Value) (nm : Str) (C : Addr) : Prop where
  g : mg nm = some (.ref C)
  kp : PySem.W.keepIn K (.ref C) = true
  cl : PySem.W.isClsIn K C = true
  ty : PySem.W.typeIn K (.ref C) = some (.type "type")
  sb : PySem.W.subIn K (.ref C) (.type "BaseException") = some true
  ve : PySem.W.subIn K (.ref C) (.type "ValueError") = some true
  rf : PySem.W.subIn K (.ref C) (.ref C) = some true
  ga : PySem.W.findIn K (.ref C) "__getattribute__" = some (some (.builtin "BaseException.__getattribute__"))
  gg : PySem.W.findIn K (.ref C) "__getattr__" = some none
  ca : PySem.W.findIn K (.ref C) "__class__" = some (some (.builtin "object.__class__"))
  sg : PySem.W.specialIn K (.builtin "object.__class__") "__get__" = some (some (.builtin "getset_descriptor.__get__"))
  tk : PySem.W.takesIn K (.builtin "object.__class__") = some true
  mo : PySem.W.mroIn K C (.type "object") = some true
  hd : PySem.W.hasDictIn K C = true
section
variable {K : PySem.W.Frag} {mg : Str → Option Value} {nm nm2 : Str} {C D : Addr} {b : Bool}
theorem ErrC.kcls (E : ErrC K mg nm C) (F : ErrC K mg nm2 D) (s : PySem.W.subIn K (.ref C) (.ref D) = some b) : PySem.W.kitCls K (.ref C) (.ref D) = some b := by
  show (if ((PySem.W.clsIn K D).isSome && PySem.W.typeIn K (.ref D) == some (.type "type")) = true then PySem.W.subIn K (.ref C) (.ref D) else none) = some b
  have h : (PySem.W.clsIn K D).isSome = true := F.cl
  rw [h, F.ty]
  exact s
theorem ErrC.one (E : ErrC K mg nm C) (F : ErrC K mg nm2 D) (s : PySem.W.subIn K (.ref C) (.ref D) = some b) : PySem.W.kitOne K (.ref C) (.ref D) = some b := by
  unfold PySem.W.kitOne
  by_cases z : ((Value.ref C : Value) == .ref D) = true
  · rw [if_pos z]
    have e : C = D := Value.ref.inj (beq_iff_eq.mp z)
    subst e
    rw [E.rf] at s
    exact s
  · rw [if_neg z]
    exact E.kcls F s
end
end Mi
set_option maxHeartbeats 2000000
namespace Mi
open PySem L2
section
variable {X : Cx} {pins : List (Addr × Obj)} {σ : St} {H : Hp} {s : Shared} {a C : Addr} {oe : Obj} {d : Option Addr}
end
@[simp ↓] def isK (m : MM (List MV)) (n : Nat) (b : Bool) : ME := fun s h => (m s h).bnd fun xs h1 => if xs.length = n then ok (.bl b) h1 else none
section
variable {X : Cx} {c : XC} {C : Addr} {mk T : Expr} {t : St → Hp → XK → Prop} {tT : TE} {p pos : Pos}
end
end Mi
set_option maxHeartbeats 2000000
namespace Mi
open PySem L2 PySem.Spec PyProof.Rows
abbrev Sui := Addr → Value → Option Addr → TS
inductive HdsN (X : Cx) : List ExceptHandler → List (Value × Nat × Sui) → Prop
  | nil : HdsN X [] []
  | cons {x n : Str} {c : Value} {i : Nat} {ts : Sui} {b₀ : Stmt} {rest : List Stmt} {q1 q2 : Pos} {hds : List ExceptHandler} {l : List (Value × Nat × Sui)} (hc : Names X x c) (hi : X.N[i]? = some n) (hl : X.env.kindOf n = some .local)
      (hsu : ∀ (a : Addr) (oe : Obj) (k : Value) (d : Option Addr) (pn : List (Addr × Obj)), Zc k d oe → (∃ vs, oe.data = .fields vs) → PSs (X.suite a ((a, oe) :: pn)) (b₀ :: rest) (ts a k d)) (r : HdsN X hds l) :
      HdsN X (.ExceptHandler (some (.Name x q1)) (some n) (b₀ :: rest) q2 :: hds) ((c, i, ts) :: l)
section
variable {X : Cx} {body : List Stmt} {h₀ : ExceptHandler} {hds : List ExceptHandler} {l : List (Value × Nat × Sui)} {pos : Pos} {tb : WX → TS} {Wout : WX}
end
end Mi
set_option maxHeartbeats 2000000
namespace Mi
open PySem L2
abbrev Cls := List (Str × Bool) × Nat × (Str → Addr → Option Addr → MT)
def suiT (K : PySem.W.Frag) (mg : Str → Option Value) (tab : List (Str × Bool)) (ms : Str → Addr → Option Addr → MT) : Sui := fun a k d D σ H => ∃ nm, tab.lookup nm = some true ∧ mg nm = some k ∧ tS K ⟨mg, fun _ _ _ => False⟩ (ms nm a d) D σ H
inductive HdsM (X : Cx) : List ExceptHandler → List Cls → List (Value × Nat × Sui) → Prop
  | nil : HdsM X [] [] []
  | cons {x y : Str} {cv : Value} {i : Nat} {tab : List (Str × Bool)} {ms : Str → Addr → Option Addr → MT} {b₀ : Stmt} {rest : List Stmt} {q1 q2 : Pos} {hds : List ExceptHandler} {cs : List Cls} {l : List (Value × Nat × Sui)} (hc : Names X x cv) (hi : X.N[i]? = some y) (hl : X.env.kindOf y = some .local)
      (htab : ∀ nm b, tab.lookup nm = some b → ∀ C, X.mg nm = some C → PySem.W.exmOne X.K C cv = some b)
      (hsu : ∀ nm, tab.lookup nm = some true → ∀ C, X.mg nm = some C → ∀ (a : Addr) (oe : Obj) (d : Option Addr) (pn : List (Addr × Obj)), Zc C d oe → (∃ vs, oe.data = .fields vs) → SsM (X.suite a ((a, oe) :: pn)) ⟨X.mg, fun _ _ _ => False⟩ (b₀ :: rest) (ms nm a d)) (r : HdsM X hds cs l) :
      HdsM X (.ExceptHandler (some (.Name x q1)) (some y) (b₀ :: rest) q2 :: hds) ((tab, i, ms) :: cs) ((cv, i, suiT X.K X.mg tab ms) :: l)
section
variable {X : Cx} {E : XK} {body : List Stmt} {h₀ : ExceptHandler} {hds : List ExceptHandler} {pos : Pos} {mb : MT} {cs : List Cls} {l : List (Value × Nat × Sui)}
end
end Mi
set_option maxHeartbeats 2000000
namespace Mi
open PySem L2
mutual
/-- no place from n on in it -/
def cloV (n : Nat) : MV → Bool
  | .ref l => decide (l < n)
  | .tup xs => cloL n xs
  | .ktp xs => cloL n xs
  | .fls xs => cloL n xs
  | .frz xs => cloL n xs
  | .exc _ _ _ xs => cloL n xs
  | .fdt _ xs => cloL n xs
  | .non => true
  | .bl _ => true
  | .int _ => true
  | .str _ => true
def cloL (n : Nat) : List MV → Bool
  | [] => true
  | x :: xs => cloV n x && cloL n xs
end
def cloO (n : Nat) : MO → Bool
  | .dead => true
  | .lst xs => cloL n xs
  | .dK kvs => cloL n (kvs.map (·.2))
  | .dT kvs => cloL n (kvs.map (·.2))
  | .ins _ kvs => cloL n (kvs.map (·.2))
def cloS (n : Nat) : MS → Bool
  | [] => true
  | none :: s => cloS n s
  | some x :: s => cloV n x && cloS n s
def CutOk (h h' : MH) : Prop := h.length ≤ h'.length ∧ ∀ i, i < h.length → h'[i]? = h[i]? ∨ ∃ o, h'[i]? = some o ∧ cloO h.length o = true
open Classical in
noncomputable def cutF (f : MF) : MF := fun xs h => match f xs h with
  | some (.ok v h') => if cloV h.length v = true ∧ CutOk h h' then ok v (h'.take h.length) else ok v h'
  | r => r
def Wd.cut (W : Wd) (n : Nat) : Wd := ⟨fun l => if l < n then W.f l else none, n, W.H, W.hid⟩
section
variable {K : PySem.W.Frag} {W W0 : Wd}
theorem Wd.cut_some {n l : Nat} {a : Addr} (e : (W.cut n).f l = some a) : l < n ∧ W.f l = some a := by
  have e' : (if l < n then W.f l else none) = some a := e
  by_cases h : l < n
  · rw [if_pos h] at e'
    exact ⟨h, e'⟩
  · rw [if_neg h] at e'
    cases e'
theorem Stab.cut {n : Nat} {p : Addr} (s : Stab W p) : Stab (W.cut n) p := ⟨fun l e => s.1 l (Wd.cut_some e).2, s.2⟩
mutual
theorem RV.cutp {n : Nat} : ∀ {m : MV} {v : V}, cloV n m = true → RV K W m v → RV K (W.cut n) m v
  | _, _, _, .non => .non
  | _, _, _, .bl b => .bl b
  | _, _, _, .int i => .int i
  | _, _, _, .str s => .str s
  | _, _, q, .ref lt e => .ref (of_decide_eq_true q) fun b hb => e b (Wd.cut_some hb).2
  | _, _, q, .tup s e r => .tup s.cut e (RVs.cutp q r)
  | _, _, q, .tupK e r => .tupK e (RVs.cutp q r)
  | _, _, q, .fls s e r => .fls s.cut e (RVs.cutp q r)
  | _, _, q, .frz s e r => .frz s.cut e (RVs.cutp q r)
  | _, _, q, .frzK e r => .frzK e (RVs.cutp q r)
  | _, _, _, .exc0 => .exc0
  | _, _, q, .excD s e r => .excD s.cut e (RVs.cutp q r)
  | _, _, q, .fdt s e r => .fdt s.cut e (RVs.cutp q r)
theorem RVs.cutp {n : Nat} : ∀ {ms : List MV} {vs : List V}, cloL n ms = true → RVs K W ms vs → RVs K (W.cut n) ms vs
  | _, _, _, .nil => .nil
  | _, _, q, .cons r t => by
    have q' : (cloV n _ && cloL n _) = true := q
    rw [Bool.and_eq_true] at q'
    exact .cons (RV.cutp q'.1 r) (RVs.cutp q'.2 t)
end
mutual
theorem RV.clo : ∀ {m : MV} {v : V}, RV K W m v → cloV W.n m = true
  | _, _, .non => rfl
  | _, _, .bl b => rfl
  | _, _, .int i => rfl
  | _, _, .str s => rfl
  | _, _, .ref lt e => decide_eq_true lt
  | _, _, .tup s e r => RVs.clo r
  | _, _, .tupK e r => RVs.clo r
  | _, _, .fls s e r => RVs.clo r
  | _, _, .frz s e r => RVs.clo r
  | _, _, .frzK e r => RVs.clo r
  | _, _, .exc0 => rfl
  | _, _, .excD s e r => RVs.clo r
  | _, _, .fdt s e r => RVs.clo r
theorem RVs.clo : ∀ {ms : List MV} {vs : List V}, RVs K W ms vs → cloL W.n ms = true
  | _, _, .nil => rfl
  | _, _, .cons r t => by
    show (cloV W.n _ && cloL W.n _) = true
    rw [RV.clo r, RVs.clo t]
    rfl
end
theorem RKV.clo {κ : Type} : ∀ {ms : List (κ × MV)} {vs : List (κ × V)}, RKV K W ms vs → cloL W.n (ms.map (·.2)) = true
  | _, _, .nil => rfl
  | _, _, .cons r t => by
    show (cloV W.n _ && cloL W.n _) = true
    rw [r.clo, RKV.clo t]
    rfl
theorem RKV.cutp {κ : Type} {n : Nat} : ∀ {ms : List (κ × MV)} {vs : List (κ × V)}, cloL n (ms.map (·.2)) = true → RKV K W ms vs → RKV K (W.cut n) ms vs
  | _, _, _, .nil => .nil
  | _, _, q, .cons r t => by
    have q' : (cloV n _ && cloL n _) = true := q
    rw [Bool.and_eq_true] at q'
    exact .cons (RV.cutp q'.1 r) (RKV.cutp q'.2 t)
theorem RO.clo {o : MO} {a : Addr} (r : RO K W o a) : cloO W.n o = true := by
  cases o with
  | dead => exact r.elim
  | lst xs =>
    obtain ⟨vs, q, t⟩ := r
    exact t.clo
  | dK kvs =>
    obtain ⟨vs, q, t⟩ := r
    exact t.clo
  | dT kvs =>
    obtain ⟨vs, q, t⟩ := r
    exact t.clo
  | ins cn kvs =>
    obtain ⟨C, dx, vs, hC, q, t⟩ := r
    exact t.clo
theorem RO.cut {n : Nat} {o : MO} {a : Addr} (c : cloO n o = true) (r : RO K W o a) : RO K (W.cut n) o a := by
  cases o with
  | dead => exact r.elim
  | lst xs =>
    obtain ⟨vs, q, t⟩ := r
    exact ⟨vs, q, t.cutp c⟩
  | dK kvs =>
    obtain ⟨vs, q, t⟩ := r
    exact ⟨vs, q, t.cutp c⟩
  | dT kvs =>
    obtain ⟨vs, q, t⟩ := r
    exact ⟨vs, q, t.cutp c⟩
  | ins cn kvs =>
    obtain ⟨C, dx, vs, hC, q, t⟩ := r
    exact ⟨C, dx, vs, hC, q, t.cutp c⟩
theorem cut_clo {h h' : MH} (S0 : Sim K W0 h) (S : Sim K W h') (c : CutOk h h') {l : Nat} {o : MO} (hl : l < h.length) (e : h'[l]? = some o) : cloO h.length o = true := by
  rcases c.2 l hl with q | ⟨u, q, z⟩
  · rw [e] at q
    cases o with
    | dead => rfl
    | lst xs =>
      obtain ⟨a0, e0⟩ := S0.live l _ q.symm (by intro z; cases z)
      obtain ⟨u, e1, r⟩ := S0.obj l a0 e0
      rw [← q] at e1
      cases e1
      rw [← S0.n]
      exact r.clo
    | dK xs =>
      obtain ⟨a0, e0⟩ := S0.live l _ q.symm (by intro z; cases z)
      obtain ⟨u, e1, r⟩ := S0.obj l a0 e0
      rw [← q] at e1
      cases e1
      rw [← S0.n]
      exact r.clo
    | dT xs =>
      obtain ⟨a0, e0⟩ := S0.live l _ q.symm (by intro z; cases z)
      obtain ⟨u, e1, r⟩ := S0.obj l a0 e0
      rw [← q] at e1
      cases e1
      rw [← S0.n]
      exact r.clo
    | ins cn xs =>
      obtain ⟨a0, e0⟩ := S0.live l _ q.symm (by intro z; cases z)
      obtain ⟨u, e1, r⟩ := S0.obj l a0 e0
      rw [← q] at e1
      cases e1
      rw [← S0.n]
      exact r.clo
  · rw [e] at q
    cases q
    exact z
theorem Sim.cut {h h' : MH} (S0 : Sim K W0 h) (S : Sim K W h') (c : CutOk h h') : Sim K (W.cut h.length) (h'.take h.length) where
  n := by
    rw [List.length_take, Nat.min_eq_left c.1]
    rfl
  lt := fun l a e => by
    rw [List.length_take, Nat.min_eq_left c.1]
    exact (Wd.cut_some e).1
  inj := fun i j a ei ej => S.inj i j a (Wd.cut_some ei).2 (Wd.cut_some ej).2
  obj := fun l a e => by
    obtain ⟨hl, e1⟩ := Wd.cut_some e
    obtain ⟨o, e2, r⟩ := S.obj l a e1
    exact ⟨o, by rw [List.getElem?_take_of_lt hl]; exact e2, r.cut (cut_clo S0 S c hl e2)⟩
  live := fun l o e d => by
    have hl : l < h.length := by
      have := (List.getElem?_eq_some_iff.mp e).1
      rw [List.length_take] at this
      omega
    rw [List.getElem?_take_of_lt hl] at e
    obtain ⟨a, ea⟩ := S.live l o e d
    exact ⟨a, (if_pos hl).trans ea⟩
  nhid := fun l a e => S.nhid l a (Wd.cut_some e).2
  hids := S.hids
theorem Ext.cut {n : Nat} (x : Ext W0 W) (hn : W0.n = n) : Ext W0 (W.cut n) where
  le := by
    rw [hn]
    exact Nat.le_refl _
  agree := fun l hl => by
    rw [show (W.cut n).f l = W.f l from if_pos (hn ▸ hl)]
    exact x.agree l hl
  frame := fun p o s e => ⟨(x.frame p o s e).1, (x.frame p o s e).2.cut⟩
  hidf := fun p o s e => x.hidf p o s e
theorem cut_pst {c : XC} {Q : VK} {f : MF} {xs : List MV} {h : MH} (S0 : Sim K W0 h) (p : Pst K c (CV K Q) W0 (cutF f xs h)) : Pst K c (CV K Q) W0 (f xs h) := by
  unfold cutF at p
  cases hf : f xs h with
  | none =>
    rw [hf] at p
    exact p.elim
  | some r =>
    rw [hf] at p
    cases r with
    | ex e h' => exact p
    | ok v h' =>
      dsimp only at p
      by_cases q : cloV h.length v = true ∧ CutOk h h'
      · rw [if_pos q] at p
        exact fun W1 x1 S1 u r1 => p (W1.cut h.length) (x1.cut S0.n) (S0.cut S1 q.2) u (r1.cutp q.1)
      · rw [if_neg q] at p
        exact p
theorem cut_sp {mg : Str → Option Value} {np : Nat} {f : MF} : ∀ vs H Q E, spM K mg np (cutF f) vs H Q E → spM K mg np f vs H Q E := fun vs H Q E ⟨W, h, xs, e, S, r, hl, p⟩ => ⟨W, h, xs, e, S, r, hl, cut_pst S p⟩
theorem cut_len {np : Nat} {f : MF} (hf : ∀ (xs : List MV) (h : MH), (f xs h).isSome = true → xs.length = np) : ∀ (xs : List MV) (h : MH), (cutF f xs h).isSome = true → xs.length = np := fun xs h e => by
  refine hf xs h ?_
  unfold cutF at e
  cases q : f xs h with
  | none =>
    rw [q] at e
    cases e
  | some r => rfl
theorem RS.clr1 : ∀ {a : MS} {b : St} (i : Nat), RS K W a b → RS K W (a.set i none) b
  | _, _, _, .nil => .nil
  | _, _, 0, .no t => .no t
  | _, _, 0, .yes _ t => .no t
  | _, _, i + 1, .no t => .no (RS.clr1 i t)
  | _, _, i + 1, .yes q t => .yes q (RS.clr1 i t)
theorem RS.wip {a : MS} {b : St} (t : RS K W a b) : ∀ vs : List Nat, RS K W (wipeM a vs) b
  | [] => t
  | v :: vs => (RS.wip t vs).clr1 v
theorem RS.cut {n : Nat} : ∀ {a : MS} {b : St}, cloS n a = true → RS K W a b → RS K (W.cut n) a b
  | _, _, _, .nil => .nil
  | _, _, q, .no t => .no (RS.cut q t)
  | _, _, q, .yes r t => by
    have q' : (cloV n _ && cloS n _) = true := q
    rw [Bool.and_eq_true] at q'
    exact .yes (r.cutp q'.1) (RS.cut q'.2 t)
end
@[simp] theorem wipe_nil {s : MS} : wipeM s [] = s := rfl
@[simp] theorem wipe_cons {s : MS} {v : Nat} {vs : List Nat} : wipeM s (v :: vs) = (wipeM s vs).set v none := rfl
@[simp ↓] def preW (vs : List Nat) (m : MT) : MT := fun s h => m (wipeM s vs) h
@[simp ↓] def wipT (vs : List Nat) (m : MT) : MT := fun s h => match m s h with
  | some (.nx s1 h1) => some (.nx (wipeM s1 vs) h1)
  | some (.brk s1 h1) => some (.brk (wipeM s1 vs) h1)
  | some (.cnt s1 h1) => some (.cnt (wipeM s1 vs) h1)
  | r => r
section
variable {X : Cx} {c : XC} {st : Stmt} {sts : List Stmt} {m : MT}
theorem s_pre {vs : List Nat} (h : SM X c st m) : SM X c st (preW vs m) := ps_wk h fun D σ H ⟨W, h, s, e, S, rs, p⟩ => ⟨W, h, wipeM s vs, e, S, rs.wip vs, p⟩
theorem ss_wip {vs : List Nat} (h : SsM X c sts m) : SsM X c sts (wipT vs m) := pss_wk h fun D σ H ⟨W, h, s, e, S, rs, p⟩ => by
  refine ⟨W, h, s, e, S, rs, ?_⟩
  unfold wipT at p
  cases q : m s h with
  | none =>
    rw [q] at p
    exact p.elim
  | some r =>
    rw [q] at p
    cases r with
    | nx s1 h1 => exact fun W1 σ1 x1 S1 rs1 => p W1 σ1 x1 S1 (rs1.wip vs)
    | brk s1 h1 => exact fun W1 σ1 x1 S1 rs1 => p W1 σ1 x1 S1 (rs1.wip vs)
    | cnt s1 h1 => exact fun W1 σ1 x1 S1 rs1 => p W1 σ1 x1 S1 (rs1.wip vs)
    | ret x h1 => exact p
    | ex x h1 => exact p
end
end Mi
set_option maxHeartbeats 2000000
namespace Mi
open PySem L2
abbrev nV (k : Nat) : MV := .int (k : Int)
abbrev prV (p : Nat × Nat) : MV := .tup [nV p.1, nV p.2]
theorem atI_n {α : Type} {xs : List α} {i : Nat} : atI xs (i : Int) = xs[i]? := by
  unfold atI
  by_cases h : i < xs.length
  · rw [ixN_nat h]
    rfl
  · have e : ixN xs.length (i : Int) = none := by
      unfold ixN
      rw [if_pos (by omega), if_neg (by omega)]
    rw [e, List.getElem?_eq_none (by omega)]
    rfl
theorem ixN_n {n j : Nat} : ixN n (j : Int) = if j < n then some j else none := by
  by_cases h : j < n
  · rw [ixN_nat h, if_pos h]
  · unfold ixN
    rw [if_pos (by omega), if_neg (by omega), if_neg h]
theorem ga {α : Type} {a t : List α} {n i : Nat} (h : a.length = n) : (a ++ t)[n + i]? = t[i]? := by
  subst h
  rw [List.getElem?_append_right (by omega)]
  congr 1
  omega
theorem ga0 {α : Type} {a t : List α} {n : Nat} (h : a.length = n) : (a ++ t)[n]? = t[0]? := ga (i := 0) h
theorem sa {α : Type} {a t : List α} {n i : Nat} {x : α} (h : a.length = n) : (a ++ t).set (n + i) x = a ++ t.set i x := by
  subst h
  rw [List.set_append_right _ _ (by omega)]
  congr 2
  omega
theorem gl {α : Type} {a t : List α} {i : Nat} (h : i < a.length) : (a ++ t)[i]? = a[i]? := List.getElem?_append_left h
theorem for_find {β : Type} {bd : MV → MT} {f : β → MV} {s : MS} {h : MH} (c : β → Bool) (r : β → MV) : ∀ {xs : List β}, (∀ x ∈ xs, bd (f x) s h = if c x = true then some (.ret (r x) h) else some (.nx s h)) →
    forS bd (xs.map f) s h = match xs.find? c with
      | some x => some (.ret (r x) h)
      | none => some (.nx s h)
  | [], _ => rfl
  | x :: xs, hs => by
    rw [List.map_cons]
    unfold forS
    rw [hs x (List.mem_cons_self ..), List.find?_cons]
    cases hc : c x with
    | true => rfl
    | false =>
      rw [if_neg Bool.false_ne_true]
      exact for_find c r fun y hy => hs y (List.mem_cons_of_mem _ hy)
theorem for_all {β : Type} {bd : MV → MT} {f : β → MV} {s : MS} {h : MH} (c : β → Bool) (r : MV) {xs : List β} (hs : ∀ x ∈ xs, bd (f x) s h = if c x = true then some (.nx s h) else some (.ret r h)) :
    forS bd (xs.map f) s h = if xs.all c = true then some (.nx s h) else some (.ret r h) := by
  rw [for_find (fun x => !c x) (fun _ => r) (xs := xs) fun x hx => by
    rw [hs x hx]
    cases c x <;> rfl]
  cases hf : xs.find? fun x => !c x with
  | none =>
    have : xs.all c = true := List.all_eq_true.mpr fun x hx => by
      have := List.find?_eq_none.mp hf x hx
      simpa using this
    rw [this]
    rfl
  | some y =>
    have : xs.all c = false := List.all_eq_false.mpr ⟨y, List.mem_of_find?_eq_some hf, by
      have := List.find?_some hf
      simpa using this⟩
    rw [this]
    rfl
theorem run_m {n : Nat} : runOf 0 n = (List.range n).map nV := run_nat
theorem rng1_n {n : Nat} {h : MH} (q : n ≤ 1000000) : rng1F [nV n] h = ok (.st ((List.range n).map nV)) h := by
  unfold rng1F
  dsimp only
  rw [if_pos (by omega), Int.toNat_natCast, run_m]
mutual
theorem cloV_le {n m : Nat} (h : n ≤ m) : ∀ {x : MV}, cloV n x = true → cloV m x = true
  | .non, _ => rfl
  | .bl _, _ => rfl
  | .int _, _ => rfl
  | .str _, _ => rfl
  | .ref l, e => decide_eq_true (Nat.lt_of_lt_of_le (of_decide_eq_true e) h)
  | .tup xs, e => cloL_le h (xs := xs) e
  | .ktp xs, e => cloL_le h (xs := xs) e
  | .fls xs, e => cloL_le h (xs := xs) e
  | .frz xs, e => cloL_le h (xs := xs) e
  | .exc _ _ _ xs, e => cloL_le h (xs := xs) e
  | .fdt _ xs, e => cloL_le h (xs := xs) e
theorem cloL_le {n m : Nat} (h : n ≤ m) : ∀ {xs : List MV}, cloL n xs = true → cloL m xs = true
  | [], _ => rfl
  | x :: xs, e => by
    have e' : (cloV n x && cloL n xs) = true := e
    rw [Bool.and_eq_true] at e'
    show (cloV m x && cloL m xs) = true
    rw [cloV_le h e'.1, cloL_le h e'.2]
    rfl
end
theorem cloO_le {n m : Nat} (h : n ≤ m) : ∀ {o : MO}, cloO n o = true → cloO m o = true
  | .dead, _ => rfl
  | .lst xs, e => cloL_le h (xs := xs) e
  | .dK kvs, e => by
    have e' : cloL n (kvs.map (·.2)) = true := e
    exact cloL_le h e'
  | .dT kvs, e => by
    have e' : cloL n (kvs.map (·.2)) = true := e
    exact cloL_le h e'
  | .ins _ kvs, e => by
    have e' : cloL n (kvs.map (·.2)) = true := e
    exact cloL_le h e'
theorem cloL_iff {n : Nat} : ∀ {xs : List MV}, cloL n xs = true ↔ ∀ x ∈ xs, cloV n x = true
  | [] => ⟨fun _ _ h => (nomatch h), fun _ => rfl⟩
  | x :: xs => by
    show (cloV n x && cloL n xs) = true ↔ _
    rw [Bool.and_eq_true, cloL_iff (xs := xs)]
    simp
theorem cloL_map {β : Type} {n : Nat} {f : β → MV} {xs : List β} (h : ∀ x, cloV n (f x) = true) : cloL n (xs.map f) = true := cloL_iff.mpr fun y hy => by
  obtain ⟨x, _, e⟩ := List.mem_map.mp hy
  rw [← e]
  exact h x
@[simp] theorem clo_int {n : Nat} {i : Int} : cloV n (.int i) = true := rfl
@[simp] theorem clo_bl {n : Nat} {i : Bool} : cloV n (.bl i) = true := rfl
@[simp] theorem clo_str {n : Nat} {i : Str} : cloV n (.str i) = true := rfl
@[simp] theorem clo_non {n : Nat} : cloV n .non = true := rfl
@[simp] theorem clo_tup {n : Nat} {xs : List MV} : cloV n (.tup xs) = cloL n xs := rfl
@[simp] theorem clo_fls {n : Nat} {xs : List MV} : cloV n (.fls xs) = cloL n xs := rfl
@[simp] theorem clo_frz {n : Nat} {xs : List MV} : cloV n (.frz xs) = cloL n xs := rfl
@[simp] theorem clo_nil {n : Nat} : cloL n [] = true := rfl
@[simp] theorem clo_cons {n : Nat} {x : MV} {xs : List MV} : cloL n (x :: xs) = (cloV n x && cloL n xs) := rfl
@[simp] theorem clo_ints {n : Nat} {xs : List Int} : cloL n (xs.map MV.int) = true := cloL_map fun _ => rfl
@[simp] theorem clo_ns {n : Nat} {xs : List Nat} : cloL n (xs.map nV) = true := cloL_map fun _ => rfl
@[simp] theorem clo_prs {n : Nat} {xs : List (Nat × Nat)} : cloL n (xs.map prV) = true := cloL_map fun _ => rfl
@[simp] theorem clo_tb {n k : Nat} {f : Nat → Bool} : cloL n (tb k fun y => MV.bl (f y)) = true := cloL_map fun _ => rfl
@[simp] theorem clo_mat {n a b : Nat} {f : Nat → Nat → Bool} : cloV n (matV a b f) = true := cloL_map fun x => cloL_map fun _ => rfl
theorem cut_eq {f : MF} {xs : List MV} {v : MV} {h h' h2 : MH} (e : f xs h = ok v h') (hv : cloV 0 v = true) (hk : CutOk h h') (ht : h'.take h.length = h2) : cutF f xs h = ok v h2 := by
  unfold cutF
  rw [e]
  dsimp only
  rw [if_pos ⟨cloV_le (Nat.zero_le _) hv, hk⟩, ht]
theorem seq_nx {a b : MT} {s s1 : MS} {h h1 : MH} (e : a s h = some (.nx s1 h1)) : seqS a b s h = b s1 h1 := by
  unfold seqS
  rw [e]
theorem seq_ret {a b : MT} {s : MS} {h h1 : MH} {x : MV} (e : a s h = some (.ret x h1)) : seqS a b s h = some (.ret x h1) := by
  unfold seqS
  rw [e]
theorem consA_ok {a : ME} {r : MM (List MV)} {s : MS} {h h1 h2 : MH} {x : MV} {xs : List MV} (e1 : a s h = ok x h1) (e2 : r s h1 = ok xs h2) : consA a r s h = ok (x :: xs) h2 := by
  unfold consA
  rw [e1, bnd_ok, e2, bnd_ok]
theorem tupM_ok {r : MM (List MV)} {s : MS} {h h1 : MH} {xs : List MV} (e : r s h = ok xs h1) (hl : xs.length ≤ 1000) : tupM r s h = ok (.tup xs) h1 := by
  unfold tupM
  rw [e, bnd_ok, if_pos (Nat.le_trans hl (by unfold lim; omega))]
theorem retS_ok {a : ME} {s : MS} {h h1 : MH} {x : MV} (e : a s h = ok x h1) : retS a s h = some (.ret x h1) := by
  unfold retS
  rw [e, bndS_ok]
theorem setS_ok {i : Nat} {a : ME} {s : MS} {h h1 : MH} {x : MV} (e : a s h = ok x h1) : setS i a s h = some (.nx (s.set i (some x)) h1) := by
  unfold setS
  rw [e, bndS_ok]
theorem ifS_t {t : MM Bool} {a b : MT} {s : MS} {h h1 : MH} (e : t s h = ok true h1) : ifS t a b s h = a s h1 := by
  unfold ifS
  rw [e, bndS_ok, if_pos rfl]
theorem ifS_f {t : MM Bool} {a b : MT} {s : MS} {h h1 : MH} (e : t s h = ok false h1) : ifS t a b s h = b s h1 := by
  unfold ifS
  rw [e, bndS_ok, if_neg Bool.false_ne_true]
theorem callM_ok {f : MF} {ds : List MV} {a : MM (List MV)} {s : MS} {h h1 h2 : MH} {xs : List MV} {y : MV} (e : a s h = ok xs h1) (e2 : f (xs ++ ds) h1 = ok y h2) : callM f ds a s h = ok y h2 := by
  unfold callM
  rw [e, bnd_ok, e2]
  rfl
end Mi
set_option maxHeartbeats 2000000
namespace Mi
open PySem L2
def ordV (n : Nat) (ps : List (Nat × Nat)) : MV := .tup [nV n, .tup (ps.map prV)]
@[simp] theorem clo_ord {k n : Nat} {ps : List (Nat × Nat)} : cloV k (ordV n ps) = true := by simp [ordV]
theorem sIx_n {n d i : Nat} : HT.sIx n d (some (i : Int)) = min i n := by
  unfold HT.sIx
  have : ¬ ((i : Int) < 0) := by omega
  simp [this]
theorem cut_take {xs : List MV} {i : Nat} : cutM xs none (some (i : Int)) = xs.take i := by
  unfold cutM
  rw [show HT.sIx xs.length 0 none = 0 from rfl, sIx_n, List.drop_zero, Nat.sub_zero, Nat.min_comm, List.take_eq_take_iff]
  omega
theorem cut_drop {xs : List MV} {i : Nat} : cutM xs (some (i : Int)) none = xs.drop i := by
  unfold cutM
  rw [show HT.sIx xs.length xs.length none = xs.length from rfl, sIx_n]
  by_cases h : i ≤ xs.length
  · rw [Nat.min_eq_left h, List.take_of_length_le (by simp)]
  · rw [Nat.min_eq_right (by omega), Nat.sub_self, List.take_zero, List.drop_eq_nil_of_le (by omega)]
theorem at1 {S os t : MH} {o : MO} {a p : Nat} (h1 : S.length = a) (hp : p = a + os.length) : (S ++ (os ++ (o :: t)))[p]? = some o := by
  subst hp
  rw [ga h1, ga0 rfl]
  rfl
theorem st2 {S os t : MH} {o o2 u : MO} {a p : Nat} (h1 : S.length = a) (hp : p = a + os.length + 1) : (S ++ (os ++ (o :: o2 :: t))).set p u = S ++ (os ++ (o :: u :: t)) := by
  subst hp
  rw [Nat.add_assoc, sa h1, sa rfl]
  rfl
structure SOrd (n : Nat) (f : Nat → Nat → Bool) : Prop where
  rk : ∃ ρ : Nat → Nat, ∀ x y, f x y = true → ρ x < ρ y
  lt : ∀ x y, f x y = true → x < n ∧ y < n
  tr : ∀ x y z, f x y = true → f y z = true → f x z = true
theorem SOrd.irr {n : Nat} {f : Nat → Nat → Bool} (h : SOrd n f) (x : Nat) : f x x = false := by
  obtain ⟨ρ, hr⟩ := h.rk
  cases c : f x x with
  | false => rfl
  | true => exact absurd (hr x x c) (Nat.lt_irrefl _)
structure Mp (n m : Nat) (r : List Nat) : Prop where
  len : r.length = n
  lt : ∀ v ∈ r, v < m
theorem Mp.at {n m x : Nat} {r : List Nat} (h : Mp n m r) (hx : x < n) : ∃ v, r[x]? = some v ∧ v < m := ⟨r[x]'(by rw [h.len]; exact hx), List.getElem?_eq_getElem _, h.lt _ (List.getElem_mem _)⟩
theorem Mp.set {n m x v : Nat} {r : List Nat} (h : Mp n m r) (hv : v < m) : Mp n m (r.set x v) := ⟨by rw [List.length_set]; exact h.len, fun w hw => by
  rcases List.mem_or_eq_of_mem_set hw with z | z
  · exact h.lt w z
  · rw [z]
    exact hv⟩
end Mi
set_option maxHeartbeats 2000000
namespace Mi
open PySem L2
@[simp ↓] def remF (x : MV) (ys : List MV) (h : MH) : Res MV := match x, ys with
  | .ref l, [.int k] => match h[l]? with
    | some (.lst xs) => match intsOf xs with
      | some ns => if ns.idxOf k < ns.length then ok .non (h.set l (.lst (xs.eraseIdx (ns.idxOf k)))) else none
      | none => none
    | _ => none
  | _, _ => none
section
variable {X : Cx} {c : XC} {K : PySem.W.Frag} {W : Wd}
end
end Mi
set_option maxHeartbeats 4000000
namespace Mi
open PySem PySem.Spec PyProof.Rows L2 HT PySem.AutoSeq1
section
variable {X : Cx}
end
@[simp ↓] def extTF (x : MV) (ys : List MV) (h : MH) : Res MV := match ys with
  | [.tup zs] => match x with
    | .ref l => match h[l]? with
      | some (.lst xs) => if xs.length + zs.length ≤ lim then ok .non (h.set l (.lst (xs ++ zs))) else none
      | _ => none
    | _ => none
  | ys => extF x ys h
section
variable {X : Cx} {c : XC} {K : PySem.W.Frag} {W : Wd}
end
section
variable {prog : Program} {w : World} {A : Around} {E : Value → Shared → Prop} {s : Shared}
end
@[simp ↓] def rvsT (m : ME) : ME := fun s h => (m s h).bnd fun x h1 => match x with
  | .tup xs => ok (.tup xs.reverse) h1
  | x => match lstOf h1 x with
    | some xs => ok (.fls xs.reverse) h1
    | none => none
section
variable {X : Cx} {c : XC} {e : Expr} {pos : Pos}
end
end Mi
set_option maxHeartbeats 4000000
namespace Mi
open PySem L2
@[simp ↓] def strF (xs : List MV) (h : MH) : Res MV := match xs with
  | [.int i] => if i.natAbs.log2 < 1920 then ok (.str (toString i)) h else none
  | _ => none
section
variable {c : XC} {K : PySem.W.Frag}
end
end Mi
set_option maxHeartbeats 4000000
namespace Mi
open PySem L2
section
variable {K : PySem.W.Frag} {W : Wd}
end
section
variable {X : Cx} {c : XC} {e o : Expr} {es : List Expr} {cn f m : Str} {C : Addr} {pos apos : Pos}
end
section
variable {X : Cx} {c : XC} {E : XK} {k : Nat} {f C : Addr} {fd : FuncData} {ps : List Str} {ds : List Value} {dvs : List V} {dms : List MV} {x cn m : Str} {p pos apos : Pos} {o e : Expr} {es : List Expr} {ma : MM (List MV)} {mo : ME} {np : Nat} {fM : MF}
end
section
variable {X : Cx} {c : XC} {e o i : Expr} {pos tpos : Pos}
end
end Mi
set_option maxHeartbeats 4000000
namespace Mi
open PySem L2
abbrev MG := MV → MS → Option MS
def allG : List MG → List MV → MS → Option MS
  | [], [], s => some s
  | g :: gs, x :: xs, s => match g x s with
    | some s1 => allG gs xs s1
    | none => none
  | _, _, _ => none
@[simp ↓] def unpN (gs : List MG) (x : MV) (s : MS) : Option MS := match x with
  | .tup xs => allG gs xs s
  | _ => none
section
variable {K : PySem.W.Frag}
end
@[simp ↓] def parS (i j : Nat) (a : MM (List MV)) : MT := fun s h => bndS (a s h) fun xs h1 => match xs with
  | [x, y] => some (.nx ((s.set i (some x)).set j (some y)) h1)
  | _ => none
@[simp ↓] def parS3 (i j l : Nat) (a : MM (List MV)) : MT := fun s h => bndS (a s h) fun xs h1 => match xs with
  | [x, y, z] => some (.nx (((s.set i (some x)).set j (some y)).set l (some z)) h1)
  | _ => none
section
variable {X : Cx} {c : XC} {pos : Pos} {a b d : Expr} {px py pz pt : Pos} {kt : _} {k2 : _} {pt2 : _} {x y z : Str} {i j l : Nat} {m : MM (List MV)}
end
def runC (a c : Int) (n : Nat) : List MV := (List.range n).map fun (i : Nat) => MV.int (a + (i : Int) * c)
@[simp ↓] def rng3F (xs : List MV) (h : MH) : Res MIter := match xs with
  | [.int i, .int j, .int c] => if c ≠ 0 ∧ c.natAbs < 1073741824 ∧ Builtin.Range.small i j c = true ∧ 0 ≤ Builtin.Range.rangeSize i j c then ok (.st (runC i c (Builtin.Range.rangeSize i j c).toNat)) h else none
  | _ => none
@[simp ↓] def rng3 (m : MM (List MV)) : MM MIter := fun s h => (m s h).bnd rng3F
section
variable {X : Cx} {c : XC} {tg a b d : Expr} {K : PySem.W.Frag} {W : Wd} {p pos : Pos} {m : MM (List MV)}
end
end Mi
set_option maxHeartbeats 4000000
namespace Mi
open PySem L2
@[simp ↓] def dnewM : ME := fun _ h => ok (.ref h.length) (h ++ [.dK []])
@[simp ↓] def dputS (mv mo mi : ME) : MT := fun s h => bndS (mv s h) fun x h1 => bndS (mo s h1) fun y h2 => bndS (mi s h2) fun z h3 => match y with
  | .ref l => match h3[l]?, keyOf z with
    | some (.dK kvs), some k => if kvs.length < lim then some (.nx s (h3.set l (.dK (putM kvs k x)))) else none
    | _, _ => none
  | _ => none
section
variable {X : Cx} {c : XC} {K : PySem.W.Frag} {W : Wd} {o i value : Expr} {pos pos' : Pos} {mv mo mi : ME}
theorem s_dput (hu : X.A.units + 64 < cLine) (ho : EM X c o mo) (hi : EM X c i mi) (hv : EM X c value mv) (hs : swapsWith value (some (.Subscript o i pos')) pos.line X.env = pure false := by rfl) : SM X c (.Assign [.Subscript o i pos'] value pos) (dputS mv mo mi) :=
  ps_wk (ps_dput (by omega) ho hi hv hs) fun D σ H ⟨W, h, s, eW, S, rs, p⟩ => by
    subst eW
    refine ⟨W, h, s, rfl, S, rs, p.bnd fun W1 h1 x x1 S1 p1 v r1 => ?_⟩
    refine ⟨W1, h1, s, rfl, S1, rs.mono x1, p1.bnd fun W2 h2 y x2 S2 p2 u r2 => ?_⟩
    refine ⟨W2, h2, s, rfl, S2, (rs.mono x1).mono x2, p2.bnd fun W3 h3 z x3 S3 p3 w r3 => ?_⟩
    cases y <;> first | exact p3.elim | skip
    rename_i l
    dsimp only at p3
    cases hl : h3[l]? with
    | none =>
      rw [hl] at p3
      exact p3.elim
    | some ob =>
      rw [hl] at p3
      cases ob with
      | dead => exact p3.elim
      | lst xs => exact p3.elim
      | ins cn fs => exact p3.elim
      | dK kvs =>
        cases hk : keyOf z with
        | none =>
          rw [hk] at p3
          exact p3.elim
        | some k =>
          rw [hk] at p3
          dsimp only at p3
          by_cases hlm : kvs.length < lim
          · rw [if_pos hlm] at p3
            obtain ⟨a, kws, ea, e2, e3, t⟩ := S3.dictAt hl (r2.mono x3)
            refine ⟨a, upd W3.H a (.dK (putK kws k v)), ea, ?_, ?_⟩
            · rw [key_V r3 hk]
              exact DPut.k e3 (Nat.lt_of_lt_of_le (by rw [← t.length]; exact hlm) (lim_line (Nat.le_refl _)))
            · exact p3 (W3.wr a (.dK (putK kws k v))) σ (Ext.wr S3 e2) (S3.wr e2 ⟨_, upd_same, (t.put ((r1.mono x2).mono x3)).mono (Ext.wr S3 e2)⟩) ((((rs.mono x1).mono x2).mono x3).mono (Ext.wr S3 e2))
          · rw [if_neg hlm] at p3
            exact p3.elim
      | dT kvs =>
        cases hk : keyOf z <;> rw [hk] at p3 <;> exact p3.elim
end
section
variable {X : Cx}
end
@[simp ↓] def isbF (x y : MV) (h : MH) : Res MV := match y with
  | .bl b => match x with
    | .bl a => ok (.bl (decide (a = b))) h
    | _ => ok (.bl false) h
  | _ => none
@[simp ↓] def nobF (x y : MV) (h : MH) : Res MV := match y with
  | .bl b => match x with
    | .bl a => ok (.bl (!decide (a = b))) h
    | _ => ok (.bl true) h
  | _ => none
section
variable {c : XC} {K : PySem.W.Frag}
end
end Mi
set_option maxHeartbeats 2000000
namespace Mi
open PySem L2
section
variable {s : MS} {h h1 h2 h3 : MH} {a b d m el : ME} {x y z : MV} {xs ys : List MV} {i n : Nat}
theorem r_var (e : slot s i = some x) : varM i s h = ok x h := by
  unfold varM
  rw [e]
  rfl
theorem r_op {f : MV → MV → MH → Res MV} (e1 : a s h = ok x h1) (e2 : b s h1 = ok y h2) (e3 : f x y h2 = ok z h3) : opM f a b s h = ok z h3 := by
  unfold opM
  rw [e1, bnd_ok, e2, bnd_ok, e3]
theorem r_nil : nilA s h = ok [] h := rfl
theorem r_blt {f : List MV → MH → Res MV} {l : MM (List MV)} (e : l s h = ok xs h1) (e2 : f xs h1 = ok y h2) : bltM f l s h = ok y h2 := by
  unfold bltM
  rw [e]
  exact e2
theorem r_fls {l : MM (List MV)} (e : l s h = ok xs h1) : flsM l s h = ok (.fls xs) h1 := by
  unfold flsM
  rw [e]
  rfl
theorem r_ref {l : MM (List MV)} (e : l s h = ok xs h1) : refM l s h = ok (.ref h1.length) (h1 ++ [.lst xs]) := by
  unfold refM
  rw [e]
  rfl
theorem r_lst {l : MM (List MV)} (e : l s h = ok xs h1) (hl : xs.length ≤ 400000) : lstM l s h = ok xs h1 := by
  unfold lstM
  rw [e, bnd_ok, if_pos (by unfold lim; omega)]
theorem r_ixt (e1 : a s h = ok (.tup xs) h1) (e2 : b s h1 = ok (nV i) h2) (e3 : xs[i]? = some x) : opM ixF a b s h = ok x h2 := r_op e1 e2 (by simp [atI_n, e3])
theorem r_tupf (e1 : a s h = ok (.fls xs) h1) : bltM tupF (consA a nilA) s h = ok (.tup xs) h1 := r_blt (consA_ok e1 r_nil) rfl
theorem r_tupr {l : Nat} (e1 : a s h = ok (.ref l) h1) (e0 : h1[l]? = some (.lst xs)) : bltM tupF (consA a nilA) s h = ok (.tup xs) h1 := r_blt (consA_ok e1 r_nil) (by simp [e0])
theorem r_add {i j : Nat} (e1 : a s h = ok (nV i) h1) (e2 : b s h1 = ok (nV j) h2) : opM addF a b s h = ok (nV (i + j)) h2 := r_op e1 e2 (by
  show ok (MV.int ((i : Int) + (j : Int))) h2 = ok (MV.int ((i + j : Nat) : Int)) h2
  rw [Int.natCast_add])
theorem r_sub {i j : Nat} (e1 : a s h = ok (nV i) h1) (e2 : b s h1 = ok (nV j) h2) (hij : j ≤ i) : opM subF a b s h = ok (nV (i - j)) h2 := r_op e1 e2 (by
  show ok (MV.int ((i : Int) - (j : Int))) h2 = ok (MV.int ((i - j : Nat) : Int)) h2
  rw [Int.ofNat_sub hij])
theorem r_mod {i j : Nat} (e1 : a s h = ok (nV i) h1) (e2 : b s h1 = ok (nV j) h2) (hj : 0 < j) : opM modF a b s h = ok (nV (i % j)) h2 := r_op e1 e2 (by
  show (if 0 < (j : Int) then ok (MV.int ((i : Int) % (j : Int))) h2 else none) = ok (MV.int ((i % j : Nat) : Int)) h2
  rw [if_pos (by omega), Int.natCast_emod])
theorem r_eq {i j : Nat} (e1 : a s h = ok (nV i) h1) (e2 : b s h1 = ok (nV j) h2) : opM eqF a b s h = ok (.bl (decide (i = j))) h2 := r_op e1 e2 (by
  show ok (MV.bl (decide ((i : Int) = (j : Int)))) h2 = _
  rw [show decide ((i : Int) = (j : Int)) = decide (i = j) from (by (rw [decide_eq_decide]; omega))])
theorem r_ne {i j : Nat} (e1 : a s h = ok (nV i) h1) (e2 : b s h1 = ok (nV j) h2) : opM neF a b s h = ok (.bl (!decide (i = j))) h2 := r_op e1 e2 (by
  show ok (MV.bl (!decide ((i : Int) = (j : Int)))) h2 = _
  rw [show decide ((i : Int) = (j : Int)) = decide (i = j) from (by (rw [decide_eq_decide]; omega))])
theorem r_lt {i j : Nat} (e1 : a s h = ok (nV i) h1) (e2 : b s h1 = ok (nV j) h2) : opM ltF a b s h = ok (.bl (decide (i < j))) h2 := r_op e1 e2 (by
  show ok (MV.bl (decide ((i : Int) < (j : Int)))) h2 = _
  rw [show decide ((i : Int) < (j : Int)) = decide (i < j) from (by (rw [decide_eq_decide]; omega))])
theorem r_gt {i j : Nat} (e1 : a s h = ok (nV i) h1) (e2 : b s h1 = ok (nV j) h2) : opM gtF a b s h = ok (.bl (decide (j < i))) h2 := r_op e1 e2 (by
  show ok (MV.bl (decide ((j : Int) < (i : Int)))) h2 = _
  rw [show decide ((j : Int) < (i : Int)) = decide (j < i) from (by (rw [decide_eq_decide]; omega))])
theorem r_eqb {i j : Bool} (e1 : a s h = ok (.bl i) h1) (e2 : b s h1 = ok (.bl j) h2) : opM eqF a b s h = ok (.bl (decide (i = j))) h2 := r_op e1 e2 rfl
theorem r_tst {p : Bool} (e : a s h = ok (.bl p) h1) : tstM a s h = ok p h1 := by
  unfold tstM
  rw [e]
  rfl
theorem r_tru {p : Bool} (e : a s h = ok (.bl p) h1) : truM a s h = ok p h1 := by
  unfold truM
  rw [e]
  rfl
theorem r_not {t : MM Bool} {p : Bool} (e : t s h = ok p h1) : notT t s h = ok (!p) h1 := by
  unfold notT
  rw [e]
  rfl
theorem r_and {t u : MM Bool} {p q : Bool} (e : t s h = ok p h1) (e2 : p = true → u s h1 = ok q h1) : andT t u s h = ok (p && q) h1 := by
  unfold andT
  rw [e, bnd_ok]
  cases p with
  | true => exact e2 rfl
  | false => rfl
theorem r_and_t {t u : MM Bool} {q : Bool} (e : t s h = ok true h1) (e2 : u s h1 = ok q h2) : andT t u s h = ok q h2 := by
  unfold andT
  rw [e, bnd_ok, if_pos rfl, e2]
theorem r_and_f {t u : MM Bool} (e : t s h = ok false h1) : andT t u s h = ok false h1 := by
  unfold andT
  rw [e, bnd_ok, if_neg Bool.false_ne_true]
theorem r_or_f {t u : MM Bool} {q : Bool} (e : t s h = ok false h1) (e2 : u s h1 = ok q h2) : orT t u s h = ok q h2 := by
  unfold orT
  rw [e, bnd_ok, if_neg Bool.false_ne_true, e2]
theorem r_andV {p q : Bool} (e : a s h = ok (.bl p) h1) (e2 : p = true → b s h1 = ok (.bl q) h1) : andV a b s h = ok (.bl (p && q)) h1 := by
  unfold andV
  rw [e, bnd_ok]
  cases p with
  | true => exact e2 rfl
  | false => rfl
theorem q_fls (e : a s h = ok (.fls xs) h1) : seqI a s h = ok (.st xs) h1 := by
  unfold seqI
  rw [e]
  rfl
theorem q_tup (e : a s h = ok (.tup xs) h1) : seqI a s h = ok (.st xs) h1 := by
  unfold seqI
  rw [e]
  rfl
theorem q_frz (e : a s h = ok (.frz xs) h1) : seqI a s h = ok (.st xs) h1 := by
  unfold seqI
  rw [e]
  rfl
theorem q_rng (e : a s h = ok (nV n) h1) (hn : n ≤ 400000) : rng1 (consA a nilA) s h = ok (.st ((List.range n).map nV)) h1 := by
  unfold rng1
  rw [consA_ok e r_nil, bnd_ok]
  exact rng1_n (by omega)
def rng (i j : Nat) : List Nat := (List.range (j - i)).map fun k => i + k
theorem q_rng2 {i j : Nat} (e : a s h = ok (nV i) h1) (e2 : b s h1 = ok (nV j) h2) (hn : i ≤ 400000) (hj : j ≤ 400000) : rng2 (consA a (consA b nilA)) s h = ok (.st ((rng i j).map nV)) h2 := by
  unfold rng2
  rw [consA_ok e (consA_ok e2 r_nil), bnd_ok]
  show (if ((i : Int) ≤ 1000000 ∧ -1000000 ≤ (i : Int)) ∧ ((j : Int) ≤ 1000000 ∧ -1000000 ≤ (j : Int)) then ok (MIter.st (runOf (i : Int) ((j : Int) - (i : Int)).toNat)) h2 else none) = _
  rw [if_pos (by omega)]
  unfold runOf rng
  rw [List.map_map, show ((j : Int) - (i : Int)).toNat = j - i by omega]
  rfl
theorem l_st {mi : MM MIter} {vs : List Nat} {g : MG} {cd : MM Bool} {its : List MV} (e : mi s h = ok (.st its) h1) : lcM mi vs g cd el s h = lcS g cd el (wipeM s vs) its [] h1 := by
  unfold lcM
  rw [e]
  rfl
theorem t_for {mi : MM MIter} {g : MG} {bd : MT} {its : List MV} (e : mi s h = ok (.st its) h1) : forM mi g bd s h = forS (turnM g bd) its s h1 := by
  unfold forM
  rw [e]
  rfl
theorem t_sub {l : Nat} {j : Int} {h4 : MH} (e : a s h = ok x h1) (e1 : b s h1 = ok (.ref l) h2) (e2 : d s h2 = ok (.int j) h3) (e3 : wrF l j x h3 = some h4) : subS a b d s h = some (.nx s h4) := by
  unfold subS
  rw [e, bndS_ok, e1, bndS_ok, e2, bndS_ok]
  show (match wrF l j x h3 with | some h4 => some (OutS.nx s h4) | none => none) = _
  rw [e3]
theorem w_n {l : Nat} (e : h[l]? = some (.lst xs)) (hi : i < xs.length) : wrF l (i : Int) x h = some (h.set l (.lst (xs.set i x))) := by
  unfold wrF
  rw [e]
  dsimp only
  rw [ixN_n, if_pos hi]
theorem t_if_nil {t : MM Bool} {m : MT} (e : t s h = ok false h1) : ifS t m nilS s h = some (.nx s h1) := by
  rw [ifS_f e]
  rfl
theorem wip_nx {m : MT} {s1 : MS} {vs : List Nat} (e : m s h = some (.nx s1 h1)) : wipT vs m s h = some (.nx (wipeM s1 vs) h1) := by
  unfold wipT
  rw [e]
end
end Mi
set_option maxHeartbeats 2000000
namespace Mi
open PySem L2
structure Eqv {α : Type} [DecidableEq α] (P : α → Prop) (k : Nat) (e : α → MV) (pd : α → PyData) : Prop where
  py : ∀ a, pyOf (e a) = some (pd a)
  lay : ∀ a, P a → (pd a).canLay0 = true
  dep : ∀ a, (pd a).depth ≤ k
  eqv : ∀ a b, PyData.eqv (pd a) (pd b) = decide (a = b)
section
variable {α β γ : Type} [DecidableEq α] [DecidableEq β] [DecidableEq γ] {P : α → Prop} {P2 : β → Prop} {P3 : γ → Prop} {k k2 k3 : Nat} {e : α → MV} {e2 : β → MV} {e3 : γ → MV} {pd : α → PyData} {pd2 : β → PyData} {pd3 : γ → PyData}
theorem Eqv.nat : Eqv (α := Nat) (fun _ => True) 0 nV fun n => .int (n : Int) := ⟨fun _ => rfl, fun _ _ => rfl, fun _ => Nat.le_refl _, fun a b => by
  show ((a : Int) == (b : Int)) = _
  rw [Bool.eq_iff_iff, beq_iff_eq, decide_eq_true_iff]
  omega⟩
theorem Eqv.int : Eqv (α := Int) (fun _ => True) 0 MV.int .int := ⟨fun _ => rfl, fun _ _ => rfl, fun _ => Nat.le_refl _, fun a b => by
  show (a == b) = _
  rw [Bool.eq_iff_iff, beq_iff_eq, decide_eq_true_iff]⟩
theorem Eqv.bool : Eqv (α := Bool) (fun _ => True) 0 MV.bl .bool := ⟨fun _ => rfl, fun _ _ => rfl, fun _ => Nat.le_refl _, fun a b => by
  show (a == b) = _
  rw [Bool.eq_iff_iff, beq_iff_eq, decide_eq_true_iff]⟩
theorem Eqv.str : Eqv (α := Str) (fun x => PyData.canLay0 (.str x) = true) 0 MV.str .str := ⟨fun _ => rfl, fun _ h => h, fun _ => Nat.le_refl _, fun a b => by
  show (a == b) = _
  rw [Bool.eq_iff_iff, beq_iff_eq, decide_eq_true_iff]⟩
theorem pys_map (h : Eqv P k e pd) : ∀ {xs : List α}, pysOf (xs.map e) = some (xs.map pd)
  | [] => rfl
  | x :: xs => by
    rw [List.map_cons]
    unfold pysOf
    rw [h.py, pys_map h]
    rfl
theorem lay_map (h : Eqv P k e pd) : ∀ {xs : List α}, (∀ x ∈ xs, P x) → PyData.canLayAll0 (xs.map pd) = true
  | [], _ => rfl
  | x :: xs, hx => by
    show (PyData.canLay0 (pd x) && PyData.canLayAll0 (xs.map pd)) = true
    rw [h.lay x (hx x (List.mem_cons_self ..)), lay_map h fun y hy => hx y (List.mem_cons_of_mem _ hy)]
    rfl
theorem dep_map (h : Eqv P k e pd) : ∀ {xs : List α}, PyData.depthAll (xs.map pd) ≤ k
  | [] => Nat.zero_le _
  | x :: xs => Nat.max_le.mpr ⟨h.dep x, dep_map h⟩
theorem eqv_map (h : Eqv P k e pd) : ∀ {xs ys : List α}, PyData.eqvAll (xs.map pd) (ys.map pd) = decide (xs = ys)
  | [], [] => rfl
  | [], y :: ys => rfl
  | x :: xs, [] => rfl
  | x :: xs, y :: ys => by
    show (PyData.eqv (pd x) (pd y) && PyData.eqvAll (xs.map pd) (ys.map pd)) = _
    rw [h.eqv, eqv_map h, ← Bool.decide_and]
    exact decide_eq_decide.mpr (by simp)
theorem Eqv.tl (h : Eqv P k e pd) : Eqv (fun xs : List α => ∀ x ∈ xs, P x) (k + 1) (fun xs => .tup (xs.map e)) fun xs => .tuple (xs.map pd) := ⟨fun xs => by
  show (pysOf (xs.map e)).map PyData.tuple = _
  rw [pys_map h]
  rfl, fun xs hx => lay_map h hx, fun xs => Nat.succ_le_succ (dep_map h), fun xs ys => eqv_map h⟩
theorem Eqv.fl (h : Eqv P k e pd) : Eqv (fun xs : List α => ∀ x ∈ xs, P x) (k + 1) (fun xs => .fls (xs.map e)) fun xs => .list (xs.map pd) := ⟨fun xs => by
  show (pysOf (xs.map e)).map PyData.list = _
  rw [pys_map h]
  rfl, fun xs hx => lay_map h hx, fun xs => Nat.succ_le_succ (dep_map h), fun xs ys => eqv_map h⟩
theorem Eqv.pr (h : Eqv P k e pd) (h2 : Eqv P2 k2 e2 pd2) : Eqv (fun p : α × β => P p.1 ∧ P2 p.2) (max k k2 + 1) (fun p => .tup [e p.1, e2 p.2]) fun p => .tuple [pd p.1, pd2 p.2] := ⟨fun p => by
  show (pysOf [e p.1, e2 p.2]).map PyData.tuple = _
  unfold pysOf pysOf pysOf
  rw [h.py, h2.py]
  rfl, fun p hp => by
  show (PyData.canLay0 (pd p.1) && (PyData.canLay0 (pd2 p.2) && true)) = true
  rw [h.lay _ hp.1, h2.lay _ hp.2]
  rfl, fun p => by
  have := h.dep p.1
  have := h2.dep p.2
  show max (pd p.1).depth (max (pd2 p.2).depth 0) + 1 ≤ _
  omega, fun p q => by
  show (PyData.eqv (pd p.1) (pd q.1) && (PyData.eqv (pd2 p.2) (pd2 q.2) && true)) = _
  rw [h.eqv, h2.eqv, Bool.and_true, ← Bool.decide_and]
  exact decide_eq_decide.mpr (by rw [Prod.ext_iff])⟩
theorem shaped_of (h : Eqv P k e pd) (hk : k ≤ 64) {a : α} (ha : P a) : SeqAt.shaped (pd a) = true := by
  unfold SeqAt.shaped
  rw [h.lay a ha, decide_eq_true (Nat.le_trans (h.dep a) hk)]
  rfl
theorem eqB_deep {x y : MV} {d d2 : PyData} (h1 : pyOf x = some d) (h2 : pyOf y = some d2) (s1 : SeqAt.shaped d = true) (s2 : SeqAt.shaped d2 = true) : eqB x y = some (PyData.eqv d d2) := by
  have gen : (match pyOf x, pyOf y with | some d, some e => if SeqAt.shaped d = true ∧ SeqAt.shaped e = true then some (PyData.eqv d e) else none | _, _ => none) = some (PyData.eqv d d2) := by
    rw [h1, h2]
    dsimp only
    rw [if_pos ⟨s1, s2⟩]
  have fin : ∀ {p q : Bool}, (p = true ↔ q = true) → some p = some q := fun h => by rw [Bool.eq_iff_iff.mpr h]
  cases x <;> cases y <;> first
    | exact gen
    | (cases h1; cases h2; rfl)
    | (cases h1; cases h2; exact fin (by rw [decide_eq_true_iff]; exact beq_iff_eq.symm))
theorem Eqv.eqB (h : Eqv P k e pd) (hk : k ≤ 64) {a b : α} (ha : P a) (hb : P b) : eqB (e a) (e b) = some (decide (a = b)) := by
  rw [eqB_deep (h.py a) (h.py b) (shaped_of h hk ha) (shaped_of h hk hb), h.eqv]
theorem r_eqv (h : Eqv P k e pd) (hk : k ≤ 64) {s : MS} {u u1 u2 : MH} {m m2 : ME} {a b : α} (ha : P a) (hb : P b) (e1 : m s u = ok (e a) u1) (e2 : m2 s u1 = ok (e b) u2) : opM eqF m m2 s u = ok (.bl (decide (a = b))) u2 := r_op e1 e2 (by
  unfold eqF
  rw [h.eqB hk ha hb])
end
end Mi
set_option maxHeartbeats 2000000
namespace Mi
open PySem L2
def kyN (x : Nat) : Key := .inl (x : Int)
end Mi
set_option maxHeartbeats 2000000
namespace Mi
open PySem L2
def keysOf : List MV → Option (List Key)
  | [] => some []
  | x :: xs => match keyOf x, keysOf xs with
    | some k, some ks => some (k :: ks)
    | _, _ => none
def tkOf : MV → Option (List Key)
  | .tup xs => keysOf xs
  | _ => none
def keyMV : Key → MV
  | .inl i => .int i
  | .inr x => .str x
def tkMV (k : List Key) : MV := .tup (k.map keyMV)
def tabOf (h : MH) : MV → Option (List (List Key × MV))
  | .ref l => match h[l]? with
    | some (.dT kvs) => some kvs
    | _ => none
  | .fdt ks xs => some (ks.zip xs)
  | _ => none
@[simp ↓] def dnewTM : ME := fun _ h => ok (.ref h.length) (h ++ [.dT []])
@[simp ↓] def dgetTF (x y : MV) (h : MH) : Res MV := match tabOf h x, tkOf y with
  | some kvs, some k => match valM kvs k with
    | some v => ok v h
    | none => none
  | _, _ => none
@[simp ↓] def dinTF (y x : MV) (h : MH) : Res MV := match tabOf h x, tkOf y with
  | some kvs, some k => ok (.bl (valM kvs k).isSome) h
  | _, _ => none
@[simp ↓] def dninTF (y x : MV) (h : MH) : Res MV := match tabOf h x, tkOf y with
  | some kvs, some k => ok (.bl (!(valM kvs k).isSome)) h
  | _, _ => none
@[simp ↓] def dputTS (mv mo mi : ME) : MT := fun s h => bndS (mv s h) fun x h1 => bndS (mo s h1) fun y h2 => bndS (mi s h2) fun z h3 => match y with
  | .ref l => match h3[l]?, tkOf z with
    | some (.dT kvs), some k => if kvs.length < lim then some (.nx s (h3.set l (.dT (putM kvs k x)))) else none
    | _, _ => none
  | _ => none
@[simp ↓] def lkS (i : Nat) (m : MT) : MT := fun s h => match s[i]? with
  | some (some (.ref l)) => match h[l]? with
    | some (.dT kvs) => m (s.set i (some (.fdt (kvs.map (·.1)) (kvs.map (·.2))))) (h.set l .dead)
    | _ => none
  | _ => none
@[simp ↓] def keysI (m : ME) : MM MIter := fun s h => (m s h).bnd fun x h1 => match x with
  | .fdt ks xs => if ks.length = xs.length then ok (.st (ks.map tkMV)) h1 else none
  | _ => none
section
variable {K : PySem.W.Frag} {W : Wd}
theorem RO.notup {o : MO} {a : Addr} {vs : List V} (r : RO K W o a) (e : W.H a = some (.tup vs)) : False := by
  cases o with
  | dead => exact r
  | lst xs =>
    obtain ⟨ws, q, _⟩ := r
    rw [e] at q
    cases q
  | dK xs =>
    obtain ⟨ws, q, _⟩ := r
    rw [e] at q
    cases q
  | dT xs =>
    obtain ⟨ws, q, _⟩ := r
    rw [e] at q
    cases q
  | ins cn fs =>
    obtain ⟨C, dx, ws, _, q, _⟩ := r
    rw [e] at q
    cases q
theorem Sim.tup {h : MH} (S : Sim K W h) {q : Addr} {vs : List V} (e : W.H q = some (.tup vs)) : Stab W q := ⟨fun l z => by
  obtain ⟨o, _, r⟩ := S.obj l q z
  exact r.notup e, fun hh => by
  obtain ⟨u, e1, n⟩ := S.hids q hh
  rw [e] at e1
  cases e1
  exact n _ rfl⟩
end
section
variable {X : Cx} {c : XC} {K : PySem.W.Frag} {W : Wd} {o i e tg value : Expr} {pos pos' : Pos} {mv mo mi : ME}
end
end Mi
set_option maxHeartbeats 2000000
namespace Mi
open PySem L2
@[simp ↓] def rgL2 (a b : ME) : MM (List MV) := fun s h => (a s h).bnd fun x h1 => (b s h1).bnd fun y h2 => match x, y with
  | .int n, .int k => if (n ≤ 1000000 ∧ -1000000 ≤ n) ∧ (k ≤ 1000000 ∧ -1000000 ≤ k) then ok (runOf n (k - n).toNat) h2 else none
  | _, _ => none
@[simp ↓] def rgT2 (a b : ME) : ME := fun s h => (a s h).bnd fun x h1 => (b s h1).bnd fun y h2 => match x, y with
  | .int n, .int k => if (n ≤ 1000000 ∧ -1000000 ≤ n) ∧ (k ≤ 1000000 ∧ -1000000 ≤ k) then ok (.tup (runOf n (k - n).toNat)) h2 else none
  | _, _ => none
section
variable {X : Cx} {c : XC} {a b : Expr} {pos p p2 : Pos} {K : PySem.W.Frag} {W : Wd}
end
end Mi
set_option maxHeartbeats 4000000
namespace Mi
open PySem L2 PySem.Spec PyProof.Rows
section
variable {X : Cx}
end
@[simp ↓] def repF (x y : MV) (h : MH) : Res MV := match x, y with
  | .tup xs, .int k => if (xs ≠ [] ∧ xs.length ≤ 1000) ∧ 1 ≤ k ∧ k ≤ 1000 then ok (.tup (List.replicate k.toNat xs).flatten) h else none
  | _, _ => none
section
variable {X : Cx} {c : XC} {K : PySem.W.Frag} {W : Wd}
end
end Mi
set_option maxHeartbeats 2000000
namespace Mi
open PySem L2
noncomputable section
def wipK (vs : List Nat) (r : Option OutS) : Option OutS := match r with
  | some (.nx s1 h1) => some (.nx (wipeM s1 vs) h1)
  | some (.brk s1 h1) => some (.brk (wipeM s1 vs) h1)
  | some (.cnt s1 h1) => some (.cnt (wipeM s1 vs) h1)
  | r => r
def defK (r : Option OutS) : Res MV := match r with
  | some (.nx _ h') => ok .non h'
  | some (.ret x h') => ok x h'
  | some (.ex e h') => some (.ex e h')
  | _ => none
theorem defM_K {np n : Nat} {m : MT} {xs : List MV} {h : MH} (hl : xs.length = np) : defM np n m xs h = defK (m (xs.map some ++ List.replicate (n - np) none) h) := by
  unfold defM defK
  refine (if_pos hl).trans ?_
  first
  | rfl
  | (cases m (xs.map some ++ List.replicate (n - np) none) h with
    | none => rfl
    | some o => cases o <;> rfl)
section
end
end
end Mi
set_option maxHeartbeats 2000000
namespace Mi
open PySem L2
noncomputable section
section
variable (pre t : MH) (b n x q : Nat) (f : Nat → Nat → Bool) (c : Nat → Bool)
end
end
end Mi
set_option maxHeartbeats 2000000
namespace Mi
open PySem L2
noncomputable section
end
end Mi
set_option maxHeartbeats 2000000
namespace Mi
open PySem L2
end Mi
set_option maxHeartbeats 2000000
namespace Mi
open PySem L2
end Mi
set_option maxHeartbeats 2000000
namespace Mi
open PySem L2
section
variable (A B t : MH) (b n x : Nat) (f : Nat → Nat → Bool) (c : Nat → Bool)
end
end Mi
set_option maxHeartbeats 2000000
namespace Mi
open PySem L2
section
variable {X : Cx} {c : XC} {K : PySem.W.Frag} {W : Wd}
end
end Mi
set_option maxHeartbeats 2000000
namespace Mi
open PySem L2
section
variable {X : Cx} {c : XC} {K : PySem.W.Frag} {W : Wd} {o e : Expr} {es : List Expr}
end
end Mi
set_option maxHeartbeats 2000000
namespace Mi
open PySem L2
def pairsM : List (Str × ME) → MM (List (Key × MV))
  | [] => fun _ h => ok [] h
  | p :: r => fun s h => (p.2 s h).bnd fun x h1 => (pairsM r s h1).bnd fun kvs h2 => ok ((Sum.inr p.1, x) :: kvs) h2
def mergeM (kvs more : List (Key × MV)) : List (Key × MV) := more.foldl (fun acc kv => putM acc kv.1 kv.2) kvs
def dispM (ps : List (Str × ME)) : ME := fun s h => (pairsM ps s (h ++ [.dK []])).bnd fun kvs h2 => match h2[h.length]? with
  | some (.dK []) => if kvs.length ≤ 15 then ok (.ref h.length) (h2.set h.length (.dK (mergeM [] kvs))) else none
  | _ => none
section
variable {X : Cx} {c : XC} {K : PySem.W.Frag} {W : Wd}
theorem RKV.merge : ∀ {bs : List (Key × MV)} {ws : List (Key × V)} {as : List (Key × MV)} {vs : List (Key × V)}, RKV K W bs ws → RKV K W as vs → RKV K W (mergeM as bs) (mergeK vs ws)
  | _, _, as, vs, .nil, q => q
  | _, _, as, vs, .cons r t, q => RKV.merge (as := putM as _ _) (vs := putK vs _ _) t (q.put r)
theorem pairs_tr : ∀ (ps : List (Str × ME)) {W : Wd} {h : MH} {s : MS} {σ : St} {Q : List (V × V) → Hp → Prop}, Sim K W h → RS K W s σ → Pst K c (fun W' (kvs : List (Key × MV)) => ∀ vs, RKV K W' kvs vs → Q (vs.map fun kv => (kV kv.1, kv.2)) W'.H) W (pairsM ps s h) → tPairs (ps.map fun p => (tM K c (cM (.str p.1)), tM K c p.2)) σ W.H Q
  | [], W, h, s, σ, Q, S, rs, p => p W (Ext.refl W) S [] .nil
  | q :: r, W, h, s, σ, Q, S, rs, p => by
    refine ⟨W, h, s, rfl, S, rs, fun W' x' S' v rv => ?_⟩
    have ev : v = kV (Sum.inr q.1) := key_V rv rfl
    subst ev
    refine ⟨W', h, s, rfl, S', rs.mono x', Pst.bnd2 p x' fun W2 h2 z x2 S2 p2 w r2 => ?_⟩
    exact pairs_tr r S2 ((rs.mono x').mono x2) (Pst.bnd2 p2 (x'.trans x2) fun W3 h3 kvs x3 S3 p3 vs rv => p3 W3 ((x'.trans x2).trans x3) S3 ((Sum.inr q.1, w) :: vs) (.cons (r2.mono x3) rv))
theorem em_disp {pos : Pos} {keys : List (Option Expr)} {values : List Expr} {ps : List (Str × ME)} (h : PPs X pos keys values (ps.map fun p => (tM X.K c (cM (.str p.1)), tM X.K c p.2))) (hall : keys.all (·.isSome) = true) (hl : keys.length = values.length) (h0 : keys ≠ [])
    (h15 : keys.length ≤ 15) : EM X c (.Dict keys values pos) (dispM ps) := pe_wk (pe_disp h hall hl h0 h15) fun σ H Q ⟨W, h1, s, eW, S, rs, p⟩ D hD => by
  subst eW
  have xa : Ext W (W.add D (.dK [])) := Ext.add S hD
  have Sa : Sim X.K (W.add D (.dK [])) (h1 ++ [.dK []]) := S.add hD ⟨[], upd_same, .nil⟩
  have fl : (W.add D (.dK [])).f h1.length = some D := by
    show (if h1.length = W.n then some D else W.f h1.length) = some D
    rw [if_pos S.n.symm]
  have ln : h1.length < (W.add D (.dK [])).n := by
    show h1.length < W.n + 1
    rw [S.n]
    exact Nat.lt_succ_self _
  have isD : ∀ W' : Wd, Ext (W.add D (.dK [])) W' → ∀ b, W'.f h1.length = some b → b = D := fun W' x' b hb => by
    rcases x'.agree _ ln with q | q
    · rw [q, fl] at hb
      exact (Option.some.inj hb).symm
    · rw [q] at hb
      cases hb
  refine pairs_tr ps Sa (rs.mono xa) (Pst.bnd2 p xa fun W2 h2 kvs x2 S2 p2 vs rv => ?_)
  cases hl : h2[h1.length]? with
  | none =>
    rw [hl] at p2
    exact p2.elim
  | some ob =>
    rw [hl] at p2
    cases ob <;> first | exact p2.elim | skip
    rename_i kvs0
    cases kvs0 with
    | cons a b => exact p2.elim
    | nil =>
      obtain ⟨a, ea⟩ := S2.live _ _ hl (by intro z; cases z)
      obtain rfl : a = D := isD W2 x2 a ea
      obtain ⟨o2, e2, ro⟩ := S2.obj _ a ea
      rw [hl] at e2
      cases e2
      obtain ⟨kws, e3, tt⟩ := ro
      cases tt
      dsimp only at p2
      by_cases hlm : kvs.length ≤ 15
      · rw [if_pos hlm] at p2
        have xw : Ext W2 (W2.wr a (.dK (mergeK [] vs))) := Ext.wr S2 ea
        refine ⟨e3, vs, rfl, by rw [← rv.length]; exact hlm, ?_⟩
        exact p2 (W2.wr a (.dK (mergeK [] vs))) ((xa.trans x2).trans xw) (S2.wr (m := .dK (mergeM [] kvs)) ea ⟨_, upd_same, (RKV.merge rv .nil).mono xw⟩) (.ref a) (.ref (Nat.lt_of_lt_of_le ln (x2.trans xw).le) (isD _ (x2.trans xw)))
      · rw [if_neg hlm] at p2
        exact p2.elim
end
end Mi
set_option maxHeartbeats 400000
namespace Mi
open PySem L2
section
variable {prog : Program} {w : World} {K : Type} [DecidableEq K] {knd : HeapKind prog w K} {A : Around} {E : Value → Shared → Prop} {s : Shared}
end
section
variable {X : Cx} {c : XC} {K : PySem.W.Frag} {W : Wd}
end
end Mi
set_option maxHeartbeats 1000000
namespace Mi
open PySem L2 RT PyProof.Rows
section
variable {prog : Program} {w : World} {A : Around} {s : Shared} {R : Result → Shared → Prop}
end
section
variable {prog : Program} {w : World} {A : Around} {E : Value → Shared → Prop} {s : Shared}
end
section
variable {X : Cx} {c : XC}
end
end Mi
set_option maxHeartbeats 1000000
namespace Mi
open PySem L2
end Mi
set_option maxHeartbeats 1000000
namespace Mi
open PySem L2
section
variable {X : Cx} {c : XC} {K : PySem.W.Frag} {W : Wd} {o e f : Expr} {apos cpos : Pos} {mo mk md : ME}
end
end Mi
set_option maxHeartbeats 2000000
namespace Mi
open PySem L2
section
variable {s : MS} {h h1 h2 h3 : MH} {a b d : ME} {l : Nat} {v z : MV} {k : List Key} {kvs : List (List Key × MV)}
end
section
variable {V : List Nat → MV} {r : List Nat} {rs : List (List Nat)} {l : Nat} {h : MH}
end
end Mi
set_option maxHeartbeats 2000000
namespace Mi
open PySem PySem.Spec PyProof.Rows
def kI (r : List Int) : List (Int ⊕ List Nat) := r.map Sum.inl
section
variable {prog : Program} {w : World} {A : Around} {E : Value → Shared → Prop} {s : Shared}
def IsT (h : Heap) (v : Value) (ns : List Int) : Prop := ∃ a o xs n, v = .ref a ∧ h.get? a = some o ∧ o.cls = .type "tuple" ∧ o.data = .seq xs n ∧ tupItems (fun _ => false) 0 xs.toList = some (kI ns)
theorem items_hd : ∀ {l : List Value} {i : Int} {ns : List Int}, tupItems (fun _ => false) 0 l = some (kI (i :: ns)) → ∃ t, l[0]? = some (.int i t)
  | [], i, ns, e => nomatch e
  | x :: l, i, ns, e => by
    cases x <;> first | (cases e; done) | skip
    · rename_i j t
      have e' : (tupItems (fun _ => false) 1 l).map (Sum.inl j :: ·) = some (kI (i :: ns)) := e
      cases c : tupItems (fun _ => false) 1 l with
      | none =>
        rw [c] at e'
        cases e'
      | some q =>
        rw [c] at e'
        have := Option.some.inj e'
        have e2 : (Sum.inl j : Int ⊕ List Nat) :: q = Sum.inl i :: kI ns := this
        injection e2 with e3 e4
        rw [Sum.inl.inj e3]
        exact ⟨t, rfl⟩
theorem IsT.tup {h : Heap} {v : Value} {ns : List Int} (t : IsT h v ns) (hn : ns ≠ []) : ∃ f, TupOf h (fun _ => false) v f := by
  obtain ⟨a, o, xs, n, rfl, ho, hc, hd, hi⟩ := t
  cases ns with
  | nil => exact absurd rfl hn
  | cons i ns =>
    obtain ⟨t, ht⟩ := items_hd hi
    refine ⟨.int i t, a, o, xs, n, rfl, ho, hc, hd, ?_, fun _ => ⟨i, t, rfl⟩, fun e => nomatch e⟩
    rw [← Array.getElem?_toList]
    exact ht
end
end Mi
namespace L2
open PySem PySem.Spec PyProof.Rows
section
variable {X : Cx}
end
end L2
namespace Mi
open PySem L2
section
variable {X : Cx} {c : XC} {K : PySem.W.Frag} {W : Wd}
end
end Mi
set_option maxHeartbeats 2000000
namespace Mi
open PySem L2
section
variable {X : Cx} {c : XC} {K : PySem.W.Frag} {W : Wd}
end
section
variable {s : MS} {h h1 h2 h3 : MH} {a b d : ME} {l : Nat} {x : Int} {v : MV} {kvs : List (Key × MV)}
end
end Mi
set_option maxHeartbeats 4000000
namespace Mi
open PySem L2 PySem.Spec PyProof.Rows
section
variable {X : Cx}
end
section
variable {X : Cx} {c : XC} {K : PySem.W.Frag} {W : Wd}
end
end Mi
set_option maxHeartbeats 4000000
namespace L2
open PySem PySem.Spec PyProof.Rows
section
variable {prog : Program} {w : World} {A : Around} {E : Value → Shared → Prop} {s : Shared}
end
section
variable {X : Cx}
end
end L2
namespace Mi
open PySem L2
section
variable {X : Cx} {c : XC} {K : PySem.W.Frag} {W : Wd}
end
end Mi
set_option maxHeartbeats 2000000
namespace Mi
open PySem L2
theorem obind {α β : Type} {o : Option α} {k : α → Option β} {r : β} (e : o.bind k = some r) : ∃ a, o = some a ∧ k a = some r := Option.bind_eq_some_iff.mp e
def gd {α : Type} (c : Prop) [Decidable c] (k : Option α) : Option α := if c then k else none
theorem gd_e {α : Type} {c : Prop} [Decidable c] {k : Option α} {r : α} (e : gd c k = some r) : c ∧ k = some r := by
  unfold gd at e
  split at e
  · exact ⟨by assumption, e⟩
  · cases e
theorem gd_ok {α : Type} {c : Prop} [Decidable c] {k : Option α} (h : c) : gd c k = k := if_pos h
def lett {α β : Type} (v : α) (k : α → β) : β := k v
theorem lett_e {α β : Type} {v : α} {k : α → Option β} {r : β} (e : lett v k = some r) : ∃ x, x = v ∧ k x = some r := ⟨v, rfl, e⟩
theorem lett_is {α β : Type} {v : α} {k : α → β} : lett v k = k v := rfl
theorem ite_e {α : Type} {c : Bool} {a b : Option α} {r : α} (e : (if c = true then a else b) = some r) : (c = true ∧ a = some r) ∨ (c = false ∧ b = some r) := by
  cases c
  · exact .inr ⟨rfl, e⟩
  · exact .inl ⟨rfl, e⟩
theorem some_e {α : Type} {a b : α} (e : some a = some b) : b = a := (Option.some.inj e).symm
theorem ok_lt {α : Type} {x v : α} {f : α → MV} {r : Res MV} {h : MH} (hx : x = v) (e : r = ok (f v) h) : r = ok (f x) h := by rw [hx]; exact e
inductive Lp (σ ρ : Type) where
  | nx (a : σ) | bk (a : σ) | rt (r : ρ)
def forO {σ α : Type} (f : σ → α → Option σ) : List α → σ → Option σ
  | [], a => some a
  | x :: xs, a => (f a x).bind fun b => forO f xs b
def forR {σ ρ α : Type} (f : σ → α → Option (Lp σ ρ)) : List α → σ → Option (Lp σ ρ)
  | [], a => some (.nx a)
  | x :: xs, a => (f a x).bind fun o => match o with
    | .nx b => forR f xs b
    | .bk b => some (.nx b)
    | .rt r => some (.rt r)
def whO {σ ρ : Type} (c : σ → Option Bool) (b : σ → Option (Lp σ ρ)) : Nat → σ → Option (Lp σ ρ)
  | 0, _ => none
  | n + 1, a => (c a).bind fun t => if t = true then (b a).bind fun o => match o with
    | .nx a1 => whO c b n a1
    | .bk a1 => some (.nx a1)
    | .rt r => some (.rt r) else some (.nx a)
def lcO {α β : Type} (c : α → Option Bool) (v : α → Option β) : List α → Option (List β)
  | [] => some []
  | x :: xs => (c x).bind fun b => if b = true then (v x).bind fun y => (lcO c v xs).map fun r => y :: r else lcO c v xs
def lcW {σ α β : Type} (f : σ → α → Option (Option β × σ)) : List α → σ → Option (List β × σ)
  | [], a => some ([], a)
  | x :: xs, a => (f a x).bind fun o => (lcW f xs o.2).map fun r => (o.1.toList ++ r.1, r.2)
section
variable {P : OutS → Prop} {a b : MT} {m : ME} {s s1 : MS} {h h1 h2 : MH} {x : MV} {tm : MM Bool} {c : Bool} {vs : List Nat} {i : Nat}
theorem W_seq (e : a s h = some (.nx s1 h1)) (k : ∃ o, b s1 h1 = some o ∧ P o) : ∃ o, seqS a b s h = some o ∧ P o := by
  obtain ⟨o, e2, p⟩ := k
  exact ⟨o, (seq_nx e).trans e2, p⟩
theorem W_ret (e : m s h = ok x h1) (p : P (.ret x h1)) : ∃ o, retS m s h = some o ∧ P o := ⟨_, retS_ok e, p⟩
theorem W_nil (p : P (.nx s h)) : ∃ o, nilS s h = some o ∧ P o := ⟨_, rfl, p⟩
theorem W_t (t : tm s h = ok c h1) (hc : c = true) (k : ∃ o, a s h1 = some o ∧ P o) : ∃ o, ifS tm a b s h = some o ∧ P o := by
  subst hc
  obtain ⟨o, e2, p⟩ := k
  exact ⟨o, (ifS_t t).trans e2, p⟩
theorem W_f (t : tm s h = ok c h1) (hc : c = false) (k : ∃ o, b s h1 = some o ∧ P o) : ∃ o, ifS tm a b s h = some o ∧ P o := by
  subst hc
  obtain ⟨o, e2, p⟩ := k
  exact ⟨o, (ifS_f t).trans e2, p⟩
theorem W_st (t : tm s h = ok c h1) (hc : c = true) (k : ∃ o, seqS a b s h1 = some o ∧ P o) {a2 : MT} : ∃ o, seqS (ifS tm a a2) b s h = some o ∧ P o := by
  subst hc
  obtain ⟨o, e2, p⟩ := k
  refine ⟨o, ?_, p⟩
  rw [← e2]
  unfold seqS
  rw [ifS_t t]
theorem W_sf (t : tm s h = ok c h1) (hc : c = false) {a2 : MT} (k : ∃ o, seqS a2 b s h1 = some o ∧ P o) : ∃ o, seqS (ifS tm a a2) b s h = some o ∧ P o := by
  subst hc
  obtain ⟨o, e2, p⟩ := k
  refine ⟨o, ?_, p⟩
  rw [← e2]
  unfold seqS
  rw [ifS_f t]
theorem W_nils (k : ∃ o, b s h = some o ∧ P o) : ∃ o, seqS nilS b s h = some o ∧ P o := k
theorem W_sret (e : m s h = ok x h1) (p : P (.ret x h1)) : ∃ o, seqS (retS m) b s h = some o ∧ P o := ⟨_, seq_ret (retS_ok e), p⟩
theorem seq_as {a b d : MT} : seqS (seqS a b) d s h = seqS a (seqS b d) s h := by
  unfold seqS
  cases a s h with
  | none => rfl
  | some o => cases o <;> rfl
theorem W_as {d : MT} (k : ∃ o, seqS a (seqS b d) s h = some o ∧ P o) : ∃ o, seqS (seqS a b) d s h = some o ∧ P o := by
  obtain ⟨o, e, p⟩ := k
  exact ⟨o, seq_as.trans e, p⟩
theorem W_wip {Q : OutS → Prop} (k : ∃ o, a s h = some o ∧ Q o) (q : ∀ o, Q o → ∃ u, wipK vs (some o) = some u ∧ P u) : ∃ o, wipT vs a s h = some o ∧ P o := by
  obtain ⟨o, e, p⟩ := k
  obtain ⟨u, e2, p2⟩ := q o p
  refine ⟨u, ?_, p2⟩
  rw [← e2]
  unfold wipT wipK
  rw [e]
  try (cases o <;> rfl)
end
section
variable {P : OutS → Prop} {a b : MT} {m : ME} {s s1 : MS} {h h1 h2 : MH} {x y : MV} {tm : MM Bool} {c : Bool} {vs : List Nat} {i : Nat} {g : MG}
theorem W_wip' (k : ∃ o, a s h = some o ∧ ∃ u, wipK vs (some o) = some u ∧ P u) : ∃ o, wipT vs a s h = some o ∧ P o := W_wip k fun _ q => q
theorem W_turn (q : g x s = some s1) (k : ∃ o, b s1 h = some o ∧ P o) : ∃ o, turnM g b x s h = some o ∧ P o := by
  obtain ⟨o, e, p⟩ := k
  refine ⟨o, ?_, p⟩
  unfold turnM
  rw [q]
  exact e
theorem W_lst (k : ∃ o, seqS a nilS s h = some o ∧ P o) : ∃ o, a s h = some o ∧ P o := by
  obtain ⟨o, e, p⟩ := k
  refine ⟨o, ?_, p⟩
  rw [← e]
  unfold seqS nilS
  cases a s h with
  | none => rfl
  | some o => cases o <;> rfl
theorem W_join {Q : MS → MH → Prop} (j : ∃ o, a s h = some o ∧ ∃ s1 h1, o = .nx s1 h1 ∧ Q s1 h1) (k : ∀ s1 h1, Q s1 h1 → ∃ o, b s1 h1 = some o ∧ P o) : ∃ o, seqS a b s h = some o ∧ P o := by
  obtain ⟨_, e, s1, h1, rfl, q⟩ := j
  exact W_seq e (k s1 h1 q)
theorem fn_go {r : Res MV} (k : ∃ o, a s h = some o ∧ defK (some o) = r) : defK (a s h) = r := by
  obtain ⟨o, e, p⟩ := k
  rw [e]
  exact p
end
def lpB {σ ρ β : Type} (o : Option (Lp σ ρ)) (k : σ → Option β) (kr : ρ → Option β) : Option β := o.bind fun o => match o with
  | .nx a => k a
  | .bk _ => none
  | .rt r => kr r
section
variable {h0 h h1 : MH} {L : List Nat} {l p q : Nat} {o x : MO}
def Fr (h0 : MH) (L : List Nat) (h : MH) : Prop := h0.length ≤ h.length ∧ ∀ i, i < h0.length → i ∉ L → h[i]? = h0[i]?
theorem Fr.refl : Fr h L h := ⟨Nat.le_refl _, fun _ _ _ => rfl⟩
theorem Fr.inn (f : Fr h0 L h) (hl : l ∈ L) : Fr h0 L (h.set l o) := ⟨by rw [List.length_set]; exact f.1, fun i hi hn => by
  rw [List.getElem?_set_ne (fun e : l = i => hn (by rw [← e]; exact hl))]
  exact f.2 i hi hn⟩
theorem Fr.out (f : Fr h0 L h) (hl : h0.length ≤ l) : Fr h0 L (h.set l o) := ⟨by rw [List.length_set]; exact f.1, fun i hi hn => by
  rw [List.getElem?_set_ne (by omega)]
  exact f.2 i hi hn⟩
theorem Fr.app (f : Fr h0 L h) {g : MH} : Fr h0 L (h ++ g) := ⟨by rw [List.length_append]; have := f.1; omega, fun i hi hn => by
  rw [List.getElem?_append_left (Nat.lt_of_lt_of_le hi f.1)]
  exact f.2 i hi hn⟩
theorem Fr.get (f : Fr h0 L h) (e : h0[q]? = some o) (hn : q ∉ L) : h[q]? = some o := (f.2 q (List.getElem?_eq_some_iff.mp e).1 hn).trans e
theorem Fr.tr0 {h2 : MH} (f : Fr h0 L h) (k : Fr h [] h2) : Fr h0 L h2 := ⟨Nat.le_trans f.1 k.1, fun i hi hn => (k.2 i (Nat.lt_of_lt_of_le hi f.1) List.not_mem_nil).trans (f.2 i hi hn)⟩
theorem Fr.tr {h2 : MH} {L2 : List Nat} (f : Fr h0 L h) (k : Fr h L2 h2) (hl : ∀ l ∈ L2, l ∈ L ∨ h0.length ≤ l) : Fr h0 L h2 := ⟨Nat.le_trans f.1 k.1, fun i hi hn => (k.2 i (Nat.lt_of_lt_of_le hi f.1) fun z => (hl i z).elim hn fun y => by omega).trans (f.2 i hi hn)⟩
theorem g_ne (e : h[q]? = some o) (n : p ≠ q) : (h.set p x)[q]? = some o := by rw [List.getElem?_set_ne n]; exact e
theorem g_eq (e : h[p]? = some o) : (h.set p x)[p]? = some x := List.getElem?_set_self (List.getElem?_eq_some_iff.mp e).1
theorem g_ap {g : MH} (e : h[q]? = some o) : (h ++ g)[q]? = some o := by
  rw [List.getElem?_append_left (List.getElem?_eq_some_iff.mp e).1]
  exact e
theorem g_nw (e : p = h.length) : (h ++ [x])[p]? = some x := by rw [e]; simp
theorem g_lt (e : h[p]? = some o) : p < h.length := (List.getElem?_eq_some_iff.mp e).1
theorem Fr.to0 (f : Fr h0 [] h) : h.take h0.length = h0 := by
  refine List.ext_getElem? fun i => ?_
  by_cases c : i < h0.length
  · rw [List.getElem?_take_of_lt c]
    exact f.2 i c (List.not_mem_nil)
  · rw [List.getElem?_eq_none (by rw [List.length_take]; omega), List.getElem?_eq_none (by omega)]
theorem Fr.to1 (f : Fr h0 [l] h) (e : h[l]? = some o) : h.take h0.length = h0.set l o := by
  refine List.ext_getElem? fun i => ?_
  by_cases c : i < h0.length
  · rw [List.getElem?_take_of_lt c]
    by_cases d : l = i
    · subst d
      rw [List.getElem?_set_self c]
      exact e
    · rw [List.getElem?_set_ne d]
      exact f.2 i c (by simp; omega)
  · rw [List.getElem?_eq_none (by rw [List.length_take]; omega), List.getElem?_eq_none (by rw [List.length_set]; omega)]
theorem Fr.e0 (f : Fr h0 [] h) (hl : h.length = h0.length) : h = h0 := by
  have := f.to0
  rwa [List.take_of_length_le (by omega)] at this
theorem Fr.e1 (f : Fr h0 [l] h) (hl : h.length = h0.length) (e : h[l]? = some o) : h = h0.set l o := by
  have := f.to1 e
  rwa [List.take_of_length_le (by omega)] at this
theorem Fr.cutok (f : Fr h0 L h) (hc : ∀ l ∈ L, ∃ o, h[l]? = some o ∧ cloO 0 o = true) : CutOk h0 h := ⟨f.1, fun i hi => by
  by_cases c : i ∈ L
  · obtain ⟨o, e, q⟩ := hc i c
    exact .inr ⟨o, e, cloO_le (Nat.zero_le _) q⟩
  · exact .inl (f.2 i hi c)⟩
end
section
variable {σ ρ α : Type}
def LR (Rel : σ → MS → MH → Prop) (RR : ρ → MV → MH → Prop) : Lp σ ρ → OutS → Prop
  | .nx a, o => ∃ s h, (o = .nx s h ∨ o = .cnt s h) ∧ Rel a s h
  | .bk a, o => ∃ s h, o = .brk s h ∧ Rel a s h
  | .rt r, o => ∃ v h, o = .ret v h ∧ RR r v h
def LF (Rel : σ → MS → MH → Prop) (RR : ρ → MV → MH → Prop) : Lp σ ρ → OutS → Prop
  | .nx a, o => ∃ s h, o = .nx s h ∧ Rel a s h
  | .bk _, _ => False
  | .rt r, o => ∃ v h, o = .ret v h ∧ RR r v h
def L1 (Rel : σ → MS → MH → Prop) (a : σ) (o : OutS) : Prop := ∃ s h, (o = .nx s h ∨ o = .cnt s h) ∧ Rel a s h
theorem for_R {bd : MV → MT} {e : α → MV} {f : σ → α → Option (Lp σ ρ)} (Rel : σ → MS → MH → Prop) (RR : ρ → MV → MH → Prop) (hs : ∀ a x s h o, Rel a s h → f a x = some o → ∃ u, bd (e x) s h = some u ∧ LR Rel RR o u) :
    ∀ {xs : List α} {a : σ} {s : MS} {h : MH} {o : Lp σ ρ}, Rel a s h → forR f xs a = some o → ∃ u, forS bd (xs.map e) s h = some u ∧ LF Rel RR o u
  | [], a, s, h, o, r, q => by
    cases q
    exact ⟨_, rfl, s, h, rfl, r⟩
  | x :: xs, a, s, h, o, r, q => by
    obtain ⟨o1, q1, q2⟩ := obind q
    obtain ⟨u, e1, l1⟩ := hs a x s h o1 r q1
    rw [List.map_cons]
    cases o1 with
    | nx b =>
      obtain ⟨s1, h1, (d | d), r1⟩ := l1
      · subst d
        obtain ⟨u2, e2, l2⟩ := for_R Rel RR hs r1 q2
        refine ⟨u2, ?_, l2⟩
        unfold forS
        rw [e1]
        exact e2
      · subst d
        obtain ⟨u2, e2, l2⟩ := for_R Rel RR hs r1 q2
        refine ⟨u2, ?_, l2⟩
        unfold forS
        rw [e1]
        exact e2
    | bk b =>
      cases q2
      obtain ⟨s1, h1, d, r1⟩ := l1
      subst d
      refine ⟨.nx s1 h1, ?_, s1, h1, rfl, r1⟩
      unfold forS
      rw [e1]
    | rt r =>
      cases q2
      obtain ⟨v, h1, d, r1⟩ := l1
      subst d
      refine ⟨.ret v h1, ?_, v, h1, rfl, r1⟩
      unfold forS
      rw [e1]
theorem for_O {bd : MV → MT} {e : α → MV} {f : σ → α → Option σ} (Rel : σ → MS → MH → Prop) (hs : ∀ a x s h b, Rel a s h → f a x = some b → ∃ u, bd (e x) s h = some u ∧ L1 Rel b u) :
    ∀ {xs : List α} {a b : σ} {s : MS} {h : MH}, Rel a s h → forO f xs a = some b → ∃ s1 h1, forS bd (xs.map e) s h = some (.nx s1 h1) ∧ Rel b s1 h1
  | [], a, b, s, h, r, q => by
    cases q
    exact ⟨s, h, rfl, r⟩
  | x :: xs, a, b, s, h, r, q => by
    obtain ⟨o1, q1, q2⟩ := obind q
    obtain ⟨u, e1, s1, h1, d, r1⟩ := hs a x s h o1 r q1
    rw [List.map_cons]
    obtain ⟨s2, h2, e2, r2⟩ := for_O Rel hs r1 q2
    refine ⟨s2, h2, ?_, r2⟩
    unfold forS
    rw [e1]
    rcases d with d | d <;> (subst d; exact e2)
section
variable {P : OutS → Prop} {B : MT} {mi : MM MIter} {g : MG} {bd : MT} {e : α → MV} {xs : List α} {vs : List Nat} {s : MS} {h h1 : MH} {a0 b : σ} {l : Nat}
theorem W_forO {f : σ → α → Option σ} (Rel : σ → MS → MH → Prop) (emi : mi (wipeM s vs) h = ok (.st (xs.map e)) h1) (r0 : Rel a0 (wipeM s vs) h1) (q : forO f xs a0 = some b) (hs : ∀ a x s h b, Rel a s h → f a x = some b → ∃ u, turnM g bd (e x) s h = some u ∧ L1 Rel b u) (k : ∀ s1 h1, Rel b s1 h1 → ∃ o, B s1 h1 = some o ∧ P o) : ∃ o, seqS (preW vs (forM mi g bd)) B s h = some o ∧ P o := by
  obtain ⟨s1, h2, e1, r1⟩ := for_O Rel hs r0 q
  exact W_seq ((show preW vs (forM mi g bd) s h = _ from t_for emi).trans e1) (k s1 h2 r1)
end
theorem W_joinB {β : Type} {P : OutS → Prop} {a B : MT} {s : MS} {h : MH} {T : Option (Lp σ ρ)} {K : σ → Option β} {KR : ρ → Option β} {x : β} (e : lpB T K KR = some x) (Rel : σ → MS → MH → Prop) (RR : ρ → MV → MH → Prop) (j : ∀ o, T = some o → ∃ u, a s h = some u ∧ LF Rel RR o u) (k : ∀ q s1 h1, K q = some x → Rel q s1 h1 → ∃ o, B s1 h1 = some o ∧ P o) (k2 : ∀ r v h1, KR r = some x → RR r v h1 → P (.ret v h1)) : ∃ o, seqS a B s h = some o ∧ P o := by
  obtain ⟨o, e1, e2⟩ := obind e
  obtain ⟨u, e3, l1⟩ := j o e1
  cases o with
  | nx a =>
    obtain ⟨s1, h2, rfl, r1⟩ := l1
    exact W_seq e3 (k a s1 h2 e2 r1)
  | bk a => exact l1.elim
  | rt r =>
    obtain ⟨v, h2, rfl, r1⟩ := l1
    exact ⟨_, seq_ret e3, k2 r v h2 e2 r1⟩
theorem W_jfor {mi : MM MIter} {g : MG} {bd : MT} {e : α → MV} {xs : List α} {vs : List Nat} {s : MS} {h h1 : MH} {a0 : σ} {f : σ → α → Option (Lp σ ρ)} {o : Lp σ ρ} (Rel : σ → MS → MH → Prop) (RR : ρ → MV → MH → Prop) (emi : mi (wipeM s vs) h = ok (.st (xs.map e)) h1) (r0 : Rel a0 (wipeM s vs) h1) (q : forR f xs a0 = some o) (hs : ∀ a x s h o, Rel a s h → f a x = some o → ∃ u, turnM g bd (e x) s h = some u ∧ LR Rel RR o u) : ∃ u, preW vs (forM mi g bd) s h = some u ∧ LF Rel RR o u := by
  obtain ⟨u, e1, l1⟩ := for_R Rel RR hs r0 q
  exact ⟨u, (show preW vs (forM mi g bd) s h = _ from t_for emi).trans e1, l1⟩
theorem whl_R {cd : MM Bool} {bd : MT} {c : σ → Option Bool} {f : σ → Option (Lp σ ρ)} (Rel : σ → MS → MH → Prop) (RR : ρ → MV → MH → Prop) (hc : ∀ a s h b, Rel a s h → c a = some b → cd s h = ok b h) (hs : ∀ a s h o, Rel a s h → c a = some true → f a = some o → ∃ u, bd s h = some u ∧ LR Rel RR o u) :
    ∀ {n : Nat} {a : σ} {s : MS} {h : MH} {o : Lp σ ρ}, Rel a s h → whO c f n a = some o → ∃ u, whlG cd bd n s h = some u ∧ LF Rel RR o u
  | 0, a, s, h, o, r, q => by cases q
  | n + 1, a, s, h, o, r, q => by
    obtain ⟨t, ct, q1⟩ := obind q
    unfold whlG
    rw [hc a s h t r ct, bndS_ok]
    cases t
    · rw [if_neg (by decide)] at q1 ⊢
      cases q1
      exact ⟨_, rfl, s, h, rfl, r⟩
    · rw [if_pos rfl] at q1 ⊢
      obtain ⟨o1, q2, q3⟩ := obind q1
      obtain ⟨u, e1, l1⟩ := hs a s h o1 r ct q2
      rw [e1]
      cases o1 with
      | nx b =>
        obtain ⟨s1, h1, d, r1⟩ := l1
        obtain ⟨u2, e2, l2⟩ := whl_R Rel RR hc hs r1 q3
        refine ⟨u2, ?_, l2⟩
        rcases d with d | d <;> (subst d; exact e2)
      | bk b =>
        cases q3
        obtain ⟨s1, h1, d, r1⟩ := l1
        subst d
        exact ⟨.nx s1 h1, rfl, s1, h1, rfl, r1⟩
      | rt r =>
        cases q3
        obtain ⟨v, h1, d, r1⟩ := l1
        subst d
        exact ⟨.ret v h1, rfl, v, h1, rfl, r1⟩
theorem W_jwhl {vs : List Nat} {cd : MM Bool} {bd : MT} {c : σ → Option Bool} {f : σ → Option (Lp σ ρ)} {n : Nat} {a0 : σ} {s : MS} {h : MH} {o : Lp σ ρ} (Rel : σ → MS → MH → Prop) (RR : ρ → MV → MH → Prop) (r0 : Rel a0 (wipeM s vs) h) (q : whO c f n a0 = some o) (hc : ∀ a s h b, Rel a s h → c a = some b → cd s h = ok b h) (hs : ∀ a s h o, Rel a s h → c a = some true → f a = some o → ∃ u, bd s h = some u ∧ LR Rel RR o u) : ∃ u, preW vs (whlG cd bd n) s h = some u ∧ LF Rel RR o u := whl_R Rel RR hc hs r0 q
end
end Mi
set_option maxHeartbeats 2000000
namespace Mi
open PySem L2
def enu {α : Type} (xs : List α) : List (Nat × α) := xs.zipIdx.map fun q => (q.2, q.1)
section
variable {α β σ : Type} {a b : ME} {s : MS} {h h1 h2 h3 : MH} {y : MV} {f : α → MV} {g : β → MV} {xs ys : List α} {i j : Nat} {x : α} {m k : MM (List MV)} {p q : Nat} {vs : List Nat} {tg : MG} {cd : MM Bool} {el : ME} {mi : MM MIter} {t : MM Bool}
theorem sq_ref {o : List MV} (e : h[p]? = some (.lst o)) : seqOf h (.ref p) = some o := by
  show (match h[p]? with
    | some (MO.lst xs) => some xs
    | _ => none) = _
  rw [e]
theorem y_ixg {z : MV} {u : Int} {zs : List MV} (e1 : a s h = ok y h1) (e2 : b s h1 = ok (.int u) h2) (q : seqOf h2 y = some zs) (e3 : atI zs u = some z) : opM ixF a b s h = ok z h2 := r_op e1 e2 (by
  cases y <;> first | (cases q; done) | skip
  case ref l =>
    unfold ixF
    dsimp only
    rw [q]
    dsimp only
    rw [e3]
  all_goals
    cases q
    show (match atI zs u with
      | some z => ok z h2
      | none => none) = _
    rw [e3])
theorem y_ix (e1 : a s h = ok y h1) (e2 : b s h1 = ok (nV i) h2) (q : seqOf h2 y = some (xs.map f)) (e3 : xs[i]? = some x) : opM ixF a b s h = ok (f x) h2 := y_ixg e1 e2 q (by rw [atI_n, List.getElem?_map, e3]; rfl)
theorem y_len (e1 : a s h = ok y h1) (q : seqOf h1 y = some (xs.map f)) : bltM lenF (consA a nilA) s h = ok (nV xs.length) h1 := r_blt (consA_ok e1 r_nil) (by
  cases y <;> first | (cases q; done) | skip
  case ref l =>
    unfold lenF
    dsimp only
    rw [q]
    dsimp only
    rw [List.length_map]
  all_goals
    cases q
    show ok (MV.int (xs.map f).length) h1 = _
    rw [List.length_map])
theorem z_lst {zs : List MV} (e1 : a s h = ok y h1) (q : seqOf h1 y = some zs) : bltL lstF (consA a nilA) s h = ok zs h1 := by
  unfold bltL
  rw [consA_ok e1 r_nil]
  show (seqOf h1 y |>.map fun ys => Out.ok ys h1) = _
  rw [q]
  rfl
theorem z_cat {u w : MV} (e1 : a s h = ok u h1) (e2 : b s h1 = ok w h2) (q1 : wlstOf h2 u = some (xs.map f)) (q2 : wlstOf h2 w = some (ys.map f)) (hl : xs.length + ys.length ≤ 400000) : catL a b s h = ok ((xs ++ ys).map f) h2 := by
  unfold catL
  rw [e1, bnd_ok, e2, bnd_ok, q1, q2]
  show (if (xs.map f).length + (ys.map f).length ≤ lim then ok (xs.map f ++ ys.map f) h2 else none) = _
  rw [List.length_map, List.length_map, if_pos (Nat.le_trans hl (by decide)), List.map_append]
theorem z_rep {u : MV} (e1 : a s h = ok u h1) (e2 : b s h1 = ok (nV i) h2) (q1 : wlstOf h2 u = some (xs.map f)) (hl : xs.length * i ≤ 400000) (hi : i ≤ 400000) : repL a b s h = ok (((List.replicate i xs).flatten).map f) h2 := by
  unfold repL
  rw [e1, bnd_ok, e2, bnd_ok, q1]
  show (if ((i : Int) ≤ 1000000 ∧ -1000000 ≤ (i : Int)) ∧ (xs.map f).length * ((i : Int).toNat) ≤ lim then ok (List.replicate (i : Int).toNat (xs.map f)).flatten h2 else none) = _
  rw [if_pos ⟨by omega, by rw [List.length_map]; show _ ≤ 1000000; rw [Int.toNat_natCast]; omega⟩, Int.toNat_natCast, List.map_flatten, List.map_replicate]
theorem y_tcat (e1 : a s h = ok (.tup (xs.map f)) h1) (e2 : b s h1 = ok (.tup (ys.map f)) h2) (hl : xs.length + ys.length ≤ 400000) : opM addF a b s h = ok (.tup ((xs ++ ys).map f)) h2 := r_op e1 e2 (by
  show (if (xs.map f).length + (ys.map f).length ≤ lim then ok (MV.tup (xs.map f ++ ys.map f)) h2 else none) = _
  rw [List.length_map, List.length_map, if_pos (Nat.le_trans hl (by decide)), List.map_append])
theorem z_rng (e : a s h = ok (nV i) h1) (hi : i ≤ 400000) : rgL a s h = ok ((List.range i).map nV) h1 := by
  unfold rgL
  rw [e, bnd_ok]
  show (if (i : Int) ≤ 1000000 ∧ -1000000 ≤ (i : Int) then ok (runOf 0 (i : Int).toNat) h1 else none) = _
  rw [if_pos ⟨by omega, by omega⟩, Int.toNat_natCast, run_m]
theorem y_rngT (e : a s h = ok (nV i) h1) (hi : i ≤ 400000) : rgT a s h = ok (.tup ((List.range i).map nV)) h1 := by
  unfold rgT
  rw [e, bnd_ok]
  show (if (i : Int) ≤ 1000000 ∧ -1000000 ≤ (i : Int) then ok (MV.tup (runOf 0 (i : Int).toNat)) h1 else none) = _
  rw [if_pos ⟨by omega, by omega⟩, Int.toNat_natCast, run_m]
theorem y_ref {zs : List MV} (e : m s h = ok zs h1) (hp : p = h1.length) (hh : h2 = h1 ++ [.lst zs]) : refM m s h = ok (.ref p) h2 := by
  rw [hp, hh]
  exact r_ref e
theorem isl {zs : List MV} (w : h[p]? = some (.lst zs)) : isL h (.ref p) = true := by
  show (match h[p]? with
    | some (MO.lst _) => true
    | _ => false) = true
  rw [w]
theorem map_er {α : Type} {f : α → MV} : ∀ {xs : List α} {i : Nat}, (xs.map f).eraseIdx i = (xs.eraseIdx i).map f
  | [], _ => rfl
  | _ :: _, 0 => rfl
  | x :: xs, i + 1 => congrArg (f x :: ·) map_er
theorem y_popAt {zs : List MV} (e : a s h = ok (.ref p) h1) (e2 : k s h1 = ok [nV i] h2) (w1 : h1[p]? = some (.lst zs)) (w2 : h2[p]? = some (.lst (xs.map f))) (e3 : xs[i]? = some x) (hl : xs.length ≤ 400000) (hh : h3 = h2.set p (.lst ((xs.eraseIdx i).map f))) : mthM popAtF a k s h = ok (f x) h3 := by
  have il : i < xs.length := (List.getElem?_eq_some_iff.mp e3).1
  have lz : ∀ zs : List MV, zs.length < 1 ∨ 0 < zs.length := fun zs => by omega
  unfold mthM
  rw [e, bnd_ok, if_pos (isl w1), e2, bnd_ok]
  show (match h2[p]? with
    | some (MO.lst xs) => match ixN xs.length (i : Int) with
      | some k => match xs[k]? with
        | some y => if xs.length ≤ lim then ok y (h2.set p (.lst (xs.eraseIdx k))) else none
        | none => none
      | none => none
    | _ => none) = _
  rw [w2]
  dsimp only
  rw [ixN_n, List.length_map, if_pos il]
  dsimp only
  rw [List.getElem?_map, e3]
  dsimp only [Option.map_some]
  rw [if_pos (Nat.le_trans hl (by decide)), hh, map_er]
theorem y_put {h4 : MH} {d : ME} (e : a s h = ok (f x) h1) (e1 : b s h1 = ok (.ref p) h2) (e2 : d s h2 = ok (nV i) h3) (w : h3[p]? = some (.lst (xs.map f))) (hi : i < xs.length) (hh : h4 = h3.set p (.lst ((xs.set i x).map f))) : subS a b d s h = some (.nx s h4) := t_sub e e1 e2 ((w_n w (by rw [List.length_map]; exact hi)).trans (by rw [hh, List.map_set]))
theorem y_frz {zs : List MV} (e : a s h = ok (.ref p) h1) (w : h1[p]? = some (.lst zs)) (hz : zs.all flatT = true) (hh : h2 = h1.set p .dead) : frzM a s h = ok (.fls zs) h2 := by
  unfold frzM
  rw [e, bnd_ok]
  rw [frz_lst (xs := zs) 2 w hz, hh]
theorem i_add {i j : Int} (e1 : a s h = ok (.int i) h1) (e2 : b s h1 = ok (.int j) h2) : opM addF a b s h = ok (.int (i + j)) h2 := r_op e1 e2 rfl
theorem i_mul {i j : Int} (e1 : a s h = ok (.int i) h1) (e2 : b s h1 = ok (.int j) h2) (g : mulOk i j) : opM mulF a b s h = ok (.int (i * j)) h2 := r_op e1 e2 (by
  show (if mulOk i j then ok (MV.int (i * j)) h2 else none) = _
  rw [if_pos g])
theorem n_mul (e1 : a s h = ok (nV i) h1) (e2 : b s h1 = ok (nV j) h2) (g : mulOk i j) : opM mulF a b s h = ok (nV (i * j)) h2 := (i_mul e1 e2 g).trans (by rw [show nV (i * j) = MV.int ((i : Int) * (j : Int)) from congrArg MV.int (Int.natCast_mul i j)])
theorem i_mod {i j : Int} (e1 : a s h = ok (.int i) h1) (e2 : b s h1 = ok (.int j) h2) (g : 0 < j) : opM modF a b s h = ok (.int (i % j)) h2 := r_op e1 e2 (by
  show (if 0 < j then ok (MV.int (i % j)) h2 else none) = _
  rw [if_pos g])
theorem i_modN {i : Int} {j : Nat} (e1 : a s h = ok (.int i) h1) (e2 : b s h1 = ok (nV j) h2) (g : 0 < j) : opM modF a b s h = ok (nV (i % (j : Int)).toNat) h2 := (i_mod e1 e2 (by omega)).trans (by rw [show nV (i % (j : Int)).toNat = MV.int (i % (j : Int)) from congrArg MV.int (Int.toNat_of_nonneg (Int.emod_nonneg _ (by omega)))])
theorem i_div {i j : Int} (e1 : a s h = ok (.int i) h1) (e2 : b s h1 = ok (.int j) h2) (g : 0 < j ∧ j < 1073741824) : opM divF a b s h = ok (.int (i / j)) h2 := r_op e1 e2 (by
  show (if 0 < j ∧ j < 1073741824 then ok (MV.int (i / j)) h2 else none) = _
  rw [if_pos g])
theorem n_div {i j : Nat} (e1 : a s h = ok (nV i) h1) (e2 : b s h1 = ok (nV j) h2) (g : 0 < j ∧ j < 1000000000) : opM divF a b s h = ok (nV (i / j)) h2 := (i_div e1 e2 (by omega)).trans (by rw [show nV (i / j) = MV.int ((i : Int) / (j : Int)) from congrArg MV.int (Int.natCast_ediv i j)])
theorem i_abs {i : Int} (e1 : a s h = ok (.int i) h1) : bltM absF (consA a nilA) s h = ok (nV i.natAbs) h1 := r_blt (consA_ok e1 r_nil) (by
  show ok (MV.int (if i < 0 then -i else i)) h1 = _
  congr 2
  split <;> omega)
theorem i_int {i : Int} (e1 : a s h = ok (.int i) h1) : bltM intF (consA a nilA) s h = ok (.int i) h1 := r_blt (consA_ok e1 r_nil) rfl
theorem lcS_O {S1 : α → MS} {c : α → Option Bool} {v : α → Option β} {s0 : MS} (ht : ∀ x, tg (f x) s0 = some (S1 x)) (hc : ∀ x b, c x = some b → cd (S1 x) h = ok b h) (hv : ∀ x y, v x = some y → el (S1 x) h = ok (g y) h) :
    ∀ {xs : List α} {r : List β} {acc : List MV}, acc.length + xs.length ≤ 400000 → lcO c v xs = some r → lcS tg cd el s0 (xs.map f) acc h = ok (acc ++ r.map g) h
  | [], r, acc, _, e => by
    cases e
    show ok acc h = _
    rw [List.map_nil, List.append_nil]
  | x :: xs, r, acc, hl, e => by
    obtain ⟨t, e1, e⟩ := obind e
    rw [List.length_cons] at hl
    rw [List.map_cons]
    unfold lcS
    rw [ht x]
    dsimp only
    rw [hc x t e1, bnd_ok]
    rcases ite_e e with ⟨ct, e⟩ | ⟨ct, e⟩
    · obtain ⟨y, e2, e⟩ := obind e
      obtain ⟨r2, e3, e4⟩ := Option.map_eq_some_iff.mp e
      rw [if_pos ct, hv x y e2, bnd_ok, if_pos (by show _ < 1000000; omega), lcS_O ht hc hv (acc := acc ++ [g y]) (by rw [List.length_append]; show _ + 1 + _ ≤ _; omega) e3, ← e4, List.append_assoc]
      rfl
    · rw [if_neg (by rw [ct]; decide)]
      exact lcS_O ht hc hv (by omega) e
theorem z_lcO {S1 : α → MS} {c : α → Option Bool} {v : α → Option β} {r : List β} (ei : mi s h = ok (.st (xs.map f)) h1) (hl : xs.length ≤ 400000) (ht : ∀ x, tg (f x) (wipeM s vs) = some (S1 x)) (hc : ∀ x b, c x = some b → cd (S1 x) h1 = ok b h1) (hv : ∀ x y, v x = some y → el (S1 x) h1 = ok (g y) h1) (e : lcO c v xs = some r) : lcM mi vs tg cd el s h = ok (r.map g) h1 := by
  rw [l_st ei, lcS_O ht hc hv (acc := []) (by show 0 + _ ≤ _; omega) e, List.nil_append]
theorem lcO_T {c : α → Bool} {v : α → β} : ∀ {xs : List α}, lcO (fun x => some (c x)) (fun x => some (v x)) xs = some ((xs.filter c).map v)
  | [] => rfl
  | x :: xs => by
    unfold lcO
    rw [Option.bind_some, lcO_T (xs := xs)]
    cases hc : c x
    · rw [if_neg (by decide), List.filter_cons_of_neg (by rw [hc]; decide)]
    · rw [if_pos rfl, List.filter_cons_of_pos hc]
      rfl
theorem z_lcT {S1 : α → MS} {c : α → Bool} {v : α → β} (ei : mi s h = ok (.st (xs.map f)) h1) (hl : xs.length ≤ 400000) (ht : ∀ x, tg (f x) (wipeM s vs) = some (S1 x)) (hc : ∀ x, cd (S1 x) h1 = ok (c x) h1) (hv : ∀ x, el (S1 x) h1 = ok (g (v x)) h1) : lcM mi vs tg cd el s h = ok (((xs.filter c).map v).map g) h1 :=
  z_lcO ei hl ht (fun x b e => by rw [hc x, Option.some.inj e]) (fun x y e => by rw [hv x, Option.some.inj e]) lcO_T
theorem z_lcY {S1 : α → MS} {v : α → β} (ei : mi s h = ok (.st (xs.map f)) h1) (hl : xs.length ≤ 400000) (ht : ∀ x, tg (f x) (wipeM s vs) = some (S1 x)) (hv : ∀ x, el (S1 x) h1 = ok (g (v x)) h1) : lcM mi vs tg yesT el s h = ok ((xs.map v).map g) h1 := by
  have := z_lcT (cd := yesT) (c := fun _ => true) ei hl ht (fun _ => rfl) hv
  rw [List.filter_eq_self.mpr fun _ _ => rfl] at this
  exact this
theorem lcS_W {S1 : α → MS} {c : σ → α → Option (Option β × σ)} {s0 : MS} (Rel : σ → MH → Prop) (ht : ∀ x, tg (f x) s0 = some (S1 x)) (hc : ∀ a x h r, Rel a h → c a x = some r → ∃ h1 h2, (∃ b, cd (S1 x) h = ok b h1 ∧ (match r.1 with
      | some y => b = true ∧ el (S1 x) h1 = ok (g y) h2
      | none => b = false ∧ h2 = h1)) ∧ Rel r.2 h2) :
    ∀ {xs : List α} {r : List β × σ} {acc : List MV} {a : σ} {h : MH}, Rel a h → acc.length + xs.length ≤ 400000 → lcW c xs a = some r → ∃ h2, lcS tg cd el s0 (xs.map f) acc h = ok (acc ++ r.1.map g) h2 ∧ Rel r.2 h2
  | [], r, acc, a, h, ra, _, e => by
    cases e
    refine ⟨h, ?_, ra⟩
    show ok acc h = _
    rw [List.map_nil, List.append_nil]
  | x :: xs, r, acc, a, h, ra, hl, e => by
    obtain ⟨o, e1, e⟩ := obind e
    obtain ⟨r2, e3, e4⟩ := Option.map_eq_some_iff.mp e
    rw [List.length_cons] at hl
    obtain ⟨h1, h2, ⟨b, e5, e6⟩, rb⟩ := hc a x h o ra e1
    rw [List.map_cons]
    unfold lcS
    rw [ht x]
    dsimp only
    rw [e5, bnd_ok]
    subst e4
    obtain ⟨o1, o2⟩ := o
    cases o1 with
    | some y =>
      obtain ⟨e7, e8⟩ := e6
      obtain ⟨h3, e9, rc⟩ := lcS_W Rel ht hc (acc := acc ++ [g y]) rb (by rw [List.length_append]; show _ + 1 + _ ≤ _; omega) e3
      refine ⟨h3, ?_, rc⟩
      rw [if_pos e7, e8, bnd_ok, if_pos (by show _ < 1000000; omega), e9, List.append_assoc]
      rfl
    | none =>
      obtain ⟨e7, e8⟩ := e6
      subst e8
      obtain ⟨h3, e9, rc⟩ := lcS_W Rel ht hc (acc := acc) rb (by omega) e3
      refine ⟨h3, ?_, rc⟩
      rw [if_neg (by rw [e7]; decide), e9]
      rfl
theorem z_lcW {S1 : α → MS} {c : σ → α → Option (Option β × σ)} (Rel : σ → MH → Prop) {r : List β × σ} {a0 : σ} (ei : mi s h = ok (.st (xs.map f)) h1) (hl : xs.length ≤ 400000) (ht : ∀ x, tg (f x) (wipeM s vs) = some (S1 x)) (hc : ∀ a x h r, Rel a h → c a x = some r → ∃ h1 h2, (∃ b, cd (S1 x) h = ok b h1 ∧ (match r.1 with
      | some y => b = true ∧ el (S1 x) h1 = ok (g y) h2
      | none => b = false ∧ h2 = h1)) ∧ Rel r.2 h2) (r0 : Rel a0 h1) (e : lcW c xs a0 = some r) : ∃ h2, lcM mi vs tg cd el s h = ok (r.1.map g) h2 ∧ Rel r.2 h2 := by
  obtain ⟨h2, e2, r2⟩ := lcS_W Rel ht hc (acc := []) r0 (by show 0 + _ ≤ _; omega) e
  refine ⟨h2, ?_, r2⟩
  rw [l_st ei, e2, List.nil_append]
end
end Mi
set_option maxHeartbeats 2000000
namespace Mi
open PySem L2
theorem and_i {a b : Bool} (h : a = true) (h2 : b = true) : (a && b) = true := by rw [h, h2]; rfl
theorem clo_F {α : Type} {f : α → MV} (h : ∀ x, cloV 0 (f x) = true) {xs : List α} : cloV 0 (.fls (xs.map f)) = true := cloL_map h
theorem clo_V {α : Type} {f : α → MV} (h : ∀ x, cloV 0 (f x) = true) {xs : List α} : cloV 0 (.tup (xs.map f)) = true := cloL_map h
theorem all_flat {α : Type} {f : α → MV} {xs : List α} (h : ∀ x, flatT (f x) = true) : (xs.map f).all flatT = true := by
  rw [List.all_map]
  exact List.all_eq_true.mpr fun x _ => h x
theorem cut_fr {F : MF} {xs : List MV} {v : MV} {h0 h : MH} {L : List Nat} (e : F xs h0 = ok v h) (fr : Fr h0 L h) (hv : cloV 0 v = true) (hc : ∀ l ∈ L, ∃ o, h[l]? = some o ∧ cloO 0 o = true) : cutF F xs h0 = ok v (h.take h0.length) := cut_eq e hv (fr.cutok hc) rfl
section
variable {α β σ : Type} {a b d : ME} {s : MS} {h h1 h2 h3 h4 : MH} {y : MV} {f : α → MV} {xs : List α} {i j p : Nat} {x : α} {t : MM Bool} {P : OutS → Prop} {m : MT}
theorem y_isi {ts : List Ty} {v : Bool} (e : a s h = ok y h1) (q : ((tyOf h1 y).map fun t => ts.any fun u => t.le u) = some v) : isiM ts a s h = ok (.bl v) h1 := by
  unfold isiM
  rw [e, bnd_ok]
  cases ht : tyOf h1 y with
  | none => rw [ht] at q; cases q
  | some t =>
    rw [ht] at q
    cases q
    rfl
section
variable {t u : MM Bool} {c c2 : Bool}
theorem y_andTt (e : t s h = ok c h1) (hc : c = true) (e2 : u s h1 = ok c2 h2) : andT t u s h = ok c2 h2 := by subst hc; exact r_and_t e e2
theorem y_andTf (e : t s h = ok c h1) (hc : c = false) : andT t u s h = ok false h1 := by subst hc; exact r_and_f e
theorem y_orTf (e : t s h = ok c h1) (hc : c = false) (e2 : u s h1 = ok c2 h2) : orT t u s h = ok c2 h2 := by subst hc; exact r_or_f e e2
theorem y_andVt (e : a s h = ok (.bl c) h1) (hc : c = true) (e2 : b s h1 = ok y h2) : andV a b s h = ok y h2 := by
  subst hc
  unfold andV
  rw [e, bnd_ok]
  exact e2
theorem y_andVf (e : a s h = ok (.bl c) h1) (hc : c = false) : andV a b s h = ok (.bl false) h1 := by
  subst hc
  unfold andV
  rw [e, bnd_ok]
  rfl
theorem y_orVt (e : a s h = ok (.bl c) h1) (hc : c = true) : orV a b s h = ok (.bl true) h1 := by
  subst hc
  unfold orV
  rw [e, bnd_ok]
  rfl
theorem y_orVf (e : a s h = ok (.bl c) h1) (hc : c = false) (e2 : b s h1 = ok y h2) : orV a b s h = ok y h2 := by
  subst hc
  unfold orV
  rw [e, bnd_ok]
  exact e2
end
theorem y_intB {c : Bool} (e : a s h = ok (.bl c) h1) : bltM intF (consA a nilA) s h = ok (nV c.toNat) h1 := r_blt (consA_ok e r_nil) (by cases c <;> rfl)
theorem callKM_ok {F : MF} {n k : Nat} {is : List Nat} {ds : List MV} {a kw : MM (List MV)} {xs zs : List MV} {y : MV} (e : a s h = ok xs h1) (e2 : kw s h1 = ok zs h2) (hl : xs.length = n ∧ zs.length = k) (e3 : F (pick is (xs ++ zs ++ ds)) h2 = ok y h3) : callKM F n k is ds a kw s h = ok y h3 := by
  unfold callKM
  rw [e, bnd_ok, e2, bnd_ok, if_pos hl, e3]
  rfl
theorem y_sliT_d (e : a s h = ok (.tup (xs.map f)) h1) (e2 : b s h1 = ok (nV i) h2) : sliT a (someO b) noO s h = ok (.tup ((xs.drop i).map f)) h2 := by
  unfold sliT someO
  rw [e, bnd_ok, e2, bnd_ok]
  show ok (MV.tup (cutM (xs.map f) (some (i : Int)) none)) h2 = _
  rw [cut_drop, List.map_drop]
theorem y_sliT_t (e : a s h = ok (.tup (xs.map f)) h1) (e2 : b s h1 = ok (nV i) h2) : sliT a noO (someO b) s h = ok (.tup ((xs.take i).map f)) h2 := by
  unfold sliT someO noO
  rw [e, bnd_ok, bnd_ok, e2, bnd_ok]
  show ok (MV.tup (cutM (xs.map f) none (some (i : Int)))) h2 = _
  rw [cut_take, List.map_take]
theorem y_sliF_t (e : a s h = ok (.fls (xs.map f)) h1) (e2 : b s h1 = ok (nV i) h2) : sliT a noO (someO b) s h = ok (.fls ((xs.take i).map f)) h2 := by
  unfold sliT someO noO
  rw [e, bnd_ok, bnd_ok, e2, bnd_ok]
  show ok (MV.fls (cutM (xs.map f) none (some (i : Int)))) h2 = _
  rw [cut_take, List.map_take]
end
section
variable {κ α : Type} [DecidableEq κ] {kf : κ → Key} {kt : κ → List Key} {g : α → MV} {d : List (κ × α)} {x : κ} {v : α} {s : MS} {h h1 h2 h3 h4 : MH} {a b c : ME} {p : Nat} {K : Type} [DecidableEq K]
end
section
variable {α : Type} {f : α → MV} {xs : List α} {s : MS} {h h1 : MH} {a : ME} {y : MV} {p : Nat}
theorem enm_map : ∀ {xs : List α} {k : Nat}, enmOf k (xs.map f) = (xs.zipIdx k).map fun q => MV.tup [nV q.2, f q.1]
  | [], _ => rfl
  | x :: xs, k => by
    rw [List.map_cons, List.zipIdx_cons, List.map_cons]
    unfold enmOf
    rw [enm_map]
theorem enu_map : enmOf 0 (xs.map f) = (enu xs).map fun q => MV.tup [nV q.1, f q.2] := by
  unfold enu
  rw [enm_map, List.map_map]
  rfl
theorem y_enmV (e : a s h = ok (.tup (xs.map f)) h1) : enmI (consA a nilA) s h = ok (.st ((enu xs).map fun q => MV.tup [nV q.1, f q.2])) h1 := by
  unfold enmI
  rw [consA_ok e r_nil, bnd_ok, ← enu_map]
  rfl
end
end Mi
set_option maxHeartbeats 2000000
namespace Mi
open PySem L2
section
variable {σ ρ α β : Type}
theorem forO_inv {f : σ → α → Option σ} (I : Nat → σ → Prop) {xs : List α} {a0 : σ} (h0 : I 0 a0) (hs : ∀ i x a, xs[i]? = some x → I i a → ∃ b, f a x = some b ∧ I (i + 1) b) : ∃ b, forO f xs a0 = some b ∧ I xs.length b := by
  have go : ∀ (ys : List α) (k : Nat) (a : σ), (∀ i x, ys[i]? = some x → xs[k + i]? = some x) → I k a → ∃ b, forO f ys a = some b ∧ I (k + ys.length) b := by
    intro ys
    induction ys with
    | nil => exact fun k a _ ha => ⟨a, rfl, ha⟩
    | cons y ys ih =>
      intro k a hy ha
      obtain ⟨b, e, hb⟩ := hs k y a (hy 0 y rfl) ha
      obtain ⟨c, e2, hc⟩ := ih (k + 1) b (fun i x hx => by
        have := hy (i + 1) x hx
        rwa [show k + (i + 1) = k + 1 + i by omega] at this) hb
      refine ⟨c, ?_, by rw [List.length_cons, show k + (ys.length + 1) = k + 1 + ys.length by omega]; exact hc⟩
      unfold forO
      rw [e]
      exact e2
  have := go xs 0 a0 (fun i x hx => by rwa [Nat.zero_add]) h0
  rwa [Nat.zero_add] at this
theorem forO_mem {f : σ → α → Option σ} (I : σ → Prop) {xs : List α} {a0 : σ} (h0 : I a0) (hs : ∀ x ∈ xs, ∀ a, I a → ∃ b, f a x = some b ∧ I b) : ∃ b, forO f xs a0 = some b ∧ I b :=
  forO_inv (fun _ => I) h0 fun i x a hx ha => hs x (List.mem_of_getElem? hx) a ha
theorem forO_rng {f : σ → Nat → Option σ} (I : Nat → σ → Prop) {n : Nat} {a0 : σ} (h0 : I 0 a0) (hs : ∀ i a, i < n → I i a → ∃ b, f a i = some b ∧ I (i + 1) b) : ∃ b, forO f (List.range n) a0 = some b ∧ I n b := by
  have := forO_inv (f := f) (xs := List.range n) I h0 fun i x a hx ha => by
    have hi : i < (List.range n).length := (List.getElem?_eq_some_iff.mp hx).1
    rw [List.length_range] at hi
    rw [List.getElem?_range hi] at hx
    cases hx
    exact hs i a hi ha
  rwa [List.length_range] at this
theorem lcO_eq {c : α → Option Bool} {v : α → Option β} {c1 : α → Bool} {v1 : α → β} : ∀ {xs : List α}, (∀ x ∈ xs, c x = some (c1 x) ∧ (c1 x = true → v x = some (v1 x))) → lcO c v xs = some ((xs.filter c1).map v1)
  | [], _ => rfl
  | x :: xs, h => by
    obtain ⟨e1, e2⟩ := h x (List.mem_cons_self ..)
    unfold lcO
    rw [e1, Option.bind_some, lcO_eq (xs := xs) fun y hy => h y (List.mem_cons_of_mem _ hy)]
    cases hc : c1 x
    · rw [if_neg (by decide), List.filter_cons_of_neg (by rw [hc]; decide)]
    · rw [if_pos rfl, List.filter_cons_of_pos hc, e2 hc]
      rfl
theorem lcO_map {v : α → Option β} {v1 : α → β} {xs : List α} (h : ∀ x ∈ xs, v x = some (v1 x)) : lcO (fun _ => some true) v xs = some (xs.map v1) := by
  rw [lcO_eq (c1 := fun _ => true) (v1 := v1) fun x hx => ⟨rfl, fun _ => h x hx⟩, List.filter_eq_self.mpr fun _ _ => rfl]
theorem lcW_inv {f : σ → α → Option (Option β × σ)} (I : Nat → List β → σ → Prop) {xs : List α} {a0 : σ} (h0 : I 0 [] a0) (hs : ∀ i x acc a, xs[i]? = some x → I i acc a → ∃ o, f a x = some o ∧ I (i + 1) (acc ++ o.1.toList) o.2) : ∃ r, lcW f xs a0 = some r ∧ I xs.length r.1 r.2 := by
  have go : ∀ (ys : List α) (k : Nat) (acc : List β) (a : σ), (∀ i x, ys[i]? = some x → xs[k + i]? = some x) → I k acc a → ∃ r, lcW f ys a = some r ∧ I (k + ys.length) (acc ++ r.1) r.2 := by
    intro ys
    induction ys with
    | nil => exact fun k acc a _ ha => ⟨([], a), rfl, by rw [List.append_nil]; exact ha⟩
    | cons y ys ih =>
      intro k acc a hy ha
      obtain ⟨o, e, hb⟩ := hs k y acc a (hy 0 y rfl) ha
      obtain ⟨r, e2, hc⟩ := ih (k + 1) (acc ++ o.1.toList) o.2 (fun i x hx => by
        have := hy (i + 1) x hx
        rwa [show k + (i + 1) = k + 1 + i by omega] at this) hb
      refine ⟨(o.1.toList ++ r.1, r.2), ?_, by rw [List.length_cons, show k + (ys.length + 1) = k + 1 + ys.length by omega, ← List.append_assoc]; exact hc⟩
      unfold lcW
      rw [e]
      dsimp only [Option.bind_some]
      rw [e2]
      rfl
  have := go xs 0 [] a0 (fun i x hx => by rwa [Nat.zero_add]) h0
  rwa [Nat.zero_add, ] at this
theorem forR_inv {f : σ → α → Option (Lp σ ρ)} (I : Nat → σ → Prop) (R : ρ → Prop) {xs : List α} {a0 : σ} (h0 : I 0 a0) (hs : ∀ i x a, xs[i]? = some x → I i a → (∃ b, f a x = some (.nx b) ∧ I (i + 1) b) ∨ ∃ r, f a x = some (.rt r) ∧ R r) : (∃ b, forR f xs a0 = some (.nx b) ∧ I xs.length b) ∨ ∃ r, forR f xs a0 = some (.rt r) ∧ R r := by
  have go : ∀ (ys : List α) (k : Nat) (a : σ), (∀ i x, ys[i]? = some x → xs[k + i]? = some x) → I k a → (∃ b, forR f ys a = some (.nx b) ∧ I (k + ys.length) b) ∨ ∃ r, forR f ys a = some (.rt r) ∧ R r := by
    intro ys
    induction ys with
    | nil => exact fun k a _ ha => .inl ⟨a, rfl, ha⟩
    | cons y ys ih =>
      intro k a hy ha
      rcases hs k y a (hy 0 y rfl) ha with ⟨b, e, hb⟩ | ⟨r, e, hr⟩
      · rcases ih (k + 1) b (fun i x hx => by
          have := hy (i + 1) x hx
          rwa [show k + (i + 1) = k + 1 + i by omega] at this) hb with ⟨c, e2, hc⟩ | ⟨r, e2, hr⟩
        · refine .inl ⟨c, ?_, by rw [List.length_cons, show k + (ys.length + 1) = k + 1 + ys.length by omega]; exact hc⟩
          unfold forR
          rw [e]
          exact e2
        · refine .inr ⟨r, ?_, hr⟩
          unfold forR
          rw [e]
          exact e2
      · refine .inr ⟨r, ?_, hr⟩
        unfold forR
        rw [e]
        rfl
  have := go xs 0 a0 (fun i x hx => by rwa [Nat.zero_add]) h0
  rwa [Nat.zero_add] at this
theorem forR_find {f : Unit → α → Option (Lp Unit ρ)} (c : α → Bool) (g : α → ρ) : ∀ {xs : List α}, (∀ x ∈ xs, f () x = if c x = true then some (.rt (g x)) else some (.nx ())) → forR f xs () = match xs.find? c with
    | some x => some (.rt (g x))
    | none => some (.nx ())
  | [], _ => rfl
  | x :: xs, h => by
    unfold forR
    rw [h x (List.mem_cons_self ..), List.find?_cons]
    cases hc : c x
    · rw [if_neg (by decide)]
      exact forR_find c g fun y hy => h y (List.mem_cons_of_mem _ hy)
    · rw [if_pos rfl]
      rfl
theorem lpB_nx {o : Option (Lp σ ρ)} {k : σ → Option β} {kr : ρ → Option β} {a : σ} (e : o = some (.nx a)) : lpB o k kr = k a := by rw [e]; rfl
theorem lpB_rt {o : Option (Lp σ ρ)} {k : σ → Option β} {kr : ρ → Option β} {r : ρ} (e : o = some (.rt r)) : lpB o k kr = kr r := by rw [e]; rfl
theorem whO_inv {c : σ → Option Bool} {f : σ → Option (Lp σ ρ)} (I : σ → Prop) (mu : σ → Nat) (hs : ∀ a, I a → ∃ b, c a = some b ∧ (b = true → ∃ a1, f a = some (.nx a1) ∧ I a1 ∧ mu a1 < mu a)) : ∀ {n : Nat} {a0 : σ}, I a0 → mu a0 < n → ∃ b, whO c f n a0 = some (.nx b) ∧ I b ∧ c b = some false
  | 0, a0, _, h => by omega
  | n + 1, a0, h0, hm => by
    obtain ⟨b, e, k⟩ := hs a0 h0
    unfold whO
    rw [e, Option.bind_some]
    cases b
    · rw [if_neg (by decide)]
      exact ⟨a0, rfl, h0, e⟩
    · obtain ⟨a1, e1, h1, m1⟩ := k rfl
      rw [if_pos rfl, e1]
      exact whO_inv I mu hs h1 (by omega)
end
end Mi
set_option maxHeartbeats 2000000
namespace Mi
open PySem L2
inductive PV where
  | non | bl (b : Bool) | int (i : Int) | str (x : Str) | tup (xs : List PV)
mutual
def plv : PV → MV
  | .non => .non
  | .bl b => .bl b
  | .int i => .int i
  | .str x => .str x
  | .tup xs => .tup (plvs xs)
def plvs : List PV → List MV
  | [] => []
  | x :: xs => plv x :: plvs xs
end
theorem pvs_map : ∀ xs : List PV, plvs xs = xs.map plv
  | [] => rfl
  | x :: xs => by
    unfold plvs
    rw [pvs_map xs]
    rfl
def PV.intOf : PV → Option Int
  | .int i => some i
  | _ => none
def PV.ty : PV → Ty
  | .non => .non
  | .bl _ => .bool
  | .int _ => .int
  | .str _ => .str
  | .tup _ => .tuple
theorem ok_eq {α : Type} {r : Res α} {x y : α} {h : MH} (e : r = ok x h) (q : x = y) : r = ok y h := by rw [← q]; exact e
theorem pv_tup {xs : List PV} : MV.tup (xs.map plv) = plv (.tup xs) := by
  show _ = MV.tup (plvs _)
  rw [pvs_map]
theorem V_co {α β : Type} {f : α → MV} {g : β → MV} {c : α → β} {xs : List α} (h : ∀ x, f x = g (c x)) : MV.tup (xs.map f) = MV.tup ((xs.map c).map g) := by
  rw [List.map_map]
  exact congrArg MV.tup (List.map_congr_left fun x _ => h x)
theorem pv_V {α : Type} {f : α → MV} {c : α → PV} {xs : List α} (h : ∀ x, f x = plv (c x)) : MV.tup (xs.map f) = plv (.tup (xs.map c)) := (V_co h).trans pv_tup
section
variable {α : Type} {a b d : ME} {s : MS} {h h1 h2 h3 : MH} {f : α → MV} {xs : List α} {i j c : Nat}
end
section
variable {a b d : ME} {s : MS} {h h1 h2 h3 h4 : MH} {p : Nat} {x v : MV} {t : Str} {kvs : List (Key × MV)}
theorem cut_ref {F : MF} {xs : List MV} (e : F xs h = ok (.ref p) h1) (lo : h.length ≤ p) : cutF F xs h = ok (.ref p) h1 := by
  unfold cutF
  rw [e]
  dsimp only
  rw [if_neg]
  intro c
  have : decide (p < h.length) = true := c.1
  have := of_decide_eq_true this
  omega
theorem y_xget (e1 : a s h = ok (.ref p) h1) (e2 : b s h1 = ok (.str t) h2) (w : h2[p]? = some (.dK kvs)) (k : keyOf (.str t) = some (.inr t)) (q : valM kvs (.inr t) = some v) : opM dgetF a b s h = ok v h2 := r_op e1 e2 (by
  unfold dgetF
  dsimp only
  rw [w, k]
  dsimp only
  rw [q])
theorem y_xput (e : a s h = ok x h1) (e1 : b s h1 = ok (.ref p) h2) (e2 : d s h2 = ok (.str t) h3) (w : h3[p]? = some (.dK kvs)) (k : keyOf (.str t) = some (.inr t)) (hl : kvs.length < 1000000) (hh : h3.set p (.dK (putM kvs (.inr t) x)) = h4) : dputS a b d s h = some (.nx s h4) := by
  unfold dputS
  rw [e, bndS_ok, e1, bndS_ok, e2, bndS_ok]
  dsimp only
  rw [w, k]
  dsimp only
  rw [if_pos (show kvs.length < lim from hl), hh]
theorem pr_nil : pairsM [] s h = ok [] h := rfl
theorem pr_cons {m : ME} {ps : List (Str × ME)} {qs : List (Key × MV)} (e : m s h = ok x h1) (e2 : pairsM ps s h1 = ok qs h2) : pairsM ((t, m) :: ps) s h = ok ((.inr t, x) :: qs) h2 := by
  show ((m s h).bnd fun x h1 => (pairsM ps s h1).bnd fun kvs h2 => ok ((Sum.inr t, x) :: kvs) h2) = _
  rw [e, bnd_ok, e2]
  rfl
theorem y_disp {ps : List (Str × ME)} {qs : List (Key × MV)} (hp : p = h.length) (hh : h1 = h ++ [.dK (List.map (fun (q : Nat × Nat) => (kyN q.1, (nV q.2))) [])]) (e : pairsM ps s h1 = ok qs h2) (w : h2[p]? = some (.dK (List.map (fun (q : Nat × Nat) => (kyN q.1, (nV q.2))) []))) (hl : qs.length ≤ 15) (hq : h2.set p (.dK (mergeM [] qs)) = h3) : dispM ps s h = ok (.ref p) h3 := by
  unfold dispM
  have hh' : h1 = h ++ [.dK []] := hh
  have w' : h2[h.length]? = some (.dK []) := by rw [← hp]; exact w
  rw [← hh', e, bnd_ok, w']
  dsimp only
  rw [if_pos hl, ← hp, hq]
end
end Mi
set_option maxHeartbeats 2000000
namespace Mi
open PySem L2
section
variable {α β : Type} {h h0 h1 h2 h3 h4 : MH} {b p q i j r : Nat} {R L : List Nat} {f : α → MV} {tr : List (List α)} {o : MO} {row : List α}
def Mx (h : MH) (b p : Nat) (R : List Nat) (f : α → MV) (tr : List (List α)) : Prop := h[p]? = some (.lst (R.map MV.ref)) ∧ R.length = tr.length ∧ (p :: R).Nodup ∧ (∀ r ∈ p :: R, b ≤ r) ∧ ∀ (i r : Nat) (row : List α), R[i]? = some r → tr[i]? = some row → h[r]? = some (.lst (row.map f))
theorem Mx.at (m : Mx h b p R f tr) (e : R[i]? = some r) : ∃ row, tr[i]? = some row ∧ h[r]? = some (.lst (row.map f)) := by
  obtain ⟨hi, e1⟩ := List.getElem?_eq_some_iff.mp e
  have hi2 : i < tr.length := by rw [← m.2.1]; exact hi
  exact ⟨_, List.getElem?_eq_getElem hi2, m.2.2.2.2 i r _ e (List.getElem?_eq_getElem hi2)⟩
theorem Mx.get (m : Mx h b p R f tr) (e : tr[i]? = some row) : ∃ r, R[i]? = some r ∧ h[r]? = some (.lst (row.map f)) := by
  obtain ⟨hi, e1⟩ := List.getElem?_eq_some_iff.mp e
  have hi2 : i < R.length := by rw [m.2.1]; exact hi
  exact ⟨_, List.getElem?_eq_getElem hi2, m.2.2.2.2 i _ _ (List.getElem?_eq_getElem hi2) e⟩
theorem Mx.lt (m : Mx h b p R f tr) : ∀ r ∈ p :: R, r < h.length := fun r hr => by
  rcases List.mem_cons.mp hr with e | e
  · rw [e]; exact g_lt m.1
  · obtain ⟨i, hi, e⟩ := List.getElem_of_mem e
    obtain ⟨row, _, w⟩ := m.at (i := i) (r := r) (by rw [← e]; exact List.getElem?_eq_getElem hi)
    exact g_lt w
theorem Mx.new (m : Mx h b p R f tr) (e : q = h.length) : q ∉ p :: R := fun hq => by
  have := m.lt q hq
  omega
theorem Mx.set (m : Mx h b p R f tr) (n : q ∉ p :: R) : Mx (h.set q o) b p R f tr := by
  obtain ⟨m1, m2, m3, m4, m5⟩ := m
  refine ⟨g_ne m1 fun e => n (by rw [e]; exact List.mem_cons_self ..), m2, m3, m4, fun i r row e1 e2 => g_ne (m5 i r row e1 e2) fun e => n ?_⟩
  rw [e]
  exact List.mem_cons_of_mem _ (List.mem_of_getElem? e1)
theorem Mx.app (m : Mx h b p R f tr) {g : MH} : Mx (h ++ g) b p R f tr := by
  obtain ⟨m1, m2, m3, m4, m5⟩ := m
  exact ⟨g_ap m1, m2, m3, m4, fun i r row e1 e2 => g_ap (m5 i r row e1 e2)⟩
theorem Mx.fr (m : Mx h b p R f tr) (k : Fr h L h1) (n : ∀ l ∈ L, l ∉ p :: R) : Mx h1 b p R f tr := by
  obtain ⟨m1, m2, m3, m4, m5⟩ := m
  refine ⟨k.get m1 fun hl => n _ hl (List.mem_cons_self ..), m2, m3, m4, fun i r row e1 e2 => k.get (m5 i r row e1 e2) fun hl => n _ hl ?_⟩
  exact List.mem_cons_of_mem _ (List.mem_of_getElem? e1)
theorem Mx.keep (m : Mx h b p R f tr) (k : ∀ q ∈ p :: R, h1[q]? = h[q]?) : Mx h1 b p R f tr := by
  obtain ⟨m1, m2, m3, m4, m5⟩ := m
  exact ⟨(k _ (List.mem_cons_self ..)).trans m1, m2, m3, m4, fun i r row e1 e2 => (k _ (List.mem_cons_of_mem _ (List.mem_of_getElem? e1))).trans (m5 i r row e1 e2)⟩
theorem nd_at {R : List Nat} (nd : R.Nodup) {i j r : Nat} (e1 : R[i]? = some r) (e2 : R[j]? = some r) : i = j := by
  obtain ⟨hi, e1⟩ := List.getElem?_eq_some_iff.mp e1
  obtain ⟨hj, e2⟩ := List.getElem?_eq_some_iff.mp e2
  have p := List.pairwise_iff_getElem.mp nd
  rcases Nat.lt_trichotomy i j with c | c | c
  · exact absurd (e1.trans e2.symm) (p i j hi hj c)
  · exact c
  · exact absurd (e2.trans e1.symm) (p j i hj hi c)
theorem Mx.put (m : Mx h b p R f tr) (e : R[i]? = some r) : Mx (h.set r (.lst (row.map f))) b p R f (tr.set i row) := by
  obtain ⟨m1, m2, m3, m4, m5⟩ := m
  have nd := List.nodup_cons.mp m3
  have hr := List.mem_of_getElem? e
  refine ⟨g_ne m1 fun e2 => nd.1 (by rw [← e2]; exact hr), by rw [List.length_set]; exact m2, m3, m4, fun k u row2 e1 e2 => ?_⟩
  by_cases c : k = i
  · subst c
    rw [e] at e1
    cases e1
    have hi : k < tr.length := by rw [← m2]; exact (List.getElem?_eq_some_iff.mp e).1
    rw [List.getElem?_set_self hi] at e2
    cases e2
    have : ∃ x, h[r]? = some x := ⟨_, m5 k r _ e (List.getElem?_eq_getElem hi)⟩
    obtain ⟨x, hx⟩ := this
    exact g_eq hx
  · rw [List.getElem?_set_ne (fun z => c z.symm)] at e2
    refine g_ne (m5 k u row2 e1 e2) fun z => c ?_
    rw [← z] at e1
    exact nd_at nd.2 e1 e
theorem Mx.rep (m : Mx h b p R f tr) (hi : i < tr.length) (hq : q = h.length) (hb : b ≤ q) : Mx ((h ++ [MO.lst (row.map f)]).set p (MO.lst ((R.set i q).map MV.ref))) b p (R.set i q) f (tr.set i row) := by
  have lt := m.lt
  obtain ⟨m1, m2, m3, m4, m5⟩ := m
  have nd := List.nodup_cons.mp m3
  have qn : q ∉ R := fun z => by have := lt q (List.mem_cons_of_mem _ z); omega
  have qp : q ≠ p := fun z => by have := lt p (List.mem_cons_self ..); omega
  have iR : i < R.length := by rw [m2]; exact hi
  refine ⟨g_eq (g_ap m1), by rw [List.length_set, List.length_set]; exact m2, List.nodup_cons.mpr ⟨fun z => ?_, ?_⟩, fun r hr => ?_, fun k u row2 e1 e2 => ?_⟩
  · rcases List.mem_or_eq_of_mem_set z with z | z
    · exact nd.1 z
    · exact qp z.symm
  · rw [List.nodup_iff_pairwise_ne, List.pairwise_iff_getElem]
    have pw := List.pairwise_iff_getElem.mp nd.2
    intro a c ha hc hac
    rw [List.length_set] at ha hc
    rw [List.getElem_set, List.getElem_set]
    split
    · split
      · omega
      · exact fun z => qn (by rw [z]; exact List.getElem_mem _)
    · split
      · exact fun z => qn (by rw [← z]; exact List.getElem_mem _)
      · exact pw a c ha hc hac
  · rcases List.mem_cons.mp hr with z | z
    · exact m4 r (by rw [z]; exact List.mem_cons_self ..)
    · rcases List.mem_or_eq_of_mem_set z with z | z
      · exact m4 r (List.mem_cons_of_mem _ z)
      · rw [z]; exact hb
  · by_cases c : k = i
    · subst c
      rw [List.getElem?_set_self iR] at e1
      cases e1
      rw [List.getElem?_set_self hi] at e2
      cases e2
      exact g_ne (g_nw hq) fun z => qp z.symm
    · rw [List.getElem?_set_ne (fun z => c z.symm)] at e1 e2
      refine g_ne (g_ap (m5 k u row2 e1 e2)) fun z => nd.1 ?_
      rw [z]
      exact List.mem_of_getElem? e1
theorem Mx.top (m : Mx h b p R f tr) : h[p]? = some (.lst (R.map MV.ref)) := m.1
theorem Mx.low (m : Mx h b p R f tr) : ∀ r ∈ p :: R, b ≤ r := m.2.2.2.1
theorem at_nin (e : R[i]? = some r) (n : q ∉ p :: R) : r ≠ q := fun z => n (by rw [← z]; exact List.mem_cons_of_mem _ (List.mem_of_getElem? e))
theorem fp_rep (n : q ∉ p :: R) (hq : q < j) : q ∉ p :: R.set i j := fun z => by
  rcases List.mem_cons.mp z with z | z
  · exact n (by rw [z]; exact List.mem_cons_self ..)
  · rcases List.mem_or_eq_of_mem_set z with z | z
    · exact n (List.mem_cons_of_mem _ z)
    · omega
theorem lcS_refs {g : MG} {el : MM (List MV)} {s0 : MS} {S1 : β → MS} {e : β → MV} {v : β → Option (List α)} (ht : ∀ x, g (e x) s0 = some (S1 x)) (hv : ∀ x y h, v x = some y → el (S1 x) h = ok (y.map f) h) :
    ∀ {xs : List β} {rows : List (List α)} {acc : List MV} {h : MH}, acc.length + xs.length ≤ 400000 → lcO (fun _ => some true) v xs = some rows → lcS g yesT (refM el) s0 (xs.map e) acc h = ok (acc ++ (List.range' h.length xs.length).map MV.ref) (h ++ rows.map fun r => MO.lst (r.map f))
  | [], rows, acc, h, _, q => by
    cases q
    show ok acc h = ok (acc ++ []) (h ++ [])
    rw [List.append_nil, List.append_nil]
  | x :: xs, rows, acc, h, hl, q => by
    obtain ⟨t, q1, q⟩ := obind q
    cases q1
    rw [if_pos rfl] at q
    obtain ⟨y, q2, q⟩ := obind q
    obtain ⟨r2, q3, q4⟩ := Option.map_eq_some_iff.mp q
    subst q4
    rw [List.length_cons] at hl
    rw [List.map_cons]
    unfold lcS
    rw [ht x]
    dsimp only
    rw [show yesT (S1 x) h = ok true h from rfl, bnd_ok, if_pos rfl, r_ref (hv x y h q2), bnd_ok, if_pos (by show _ < 1000000; omega), lcS_refs ht hv (acc := acc ++ [MV.ref h.length]) (h := h ++ [MO.lst (y.map f)]) (by rw [List.length_append]; show _ + 1 + _ ≤ _; omega) q3, List.length_append, show (x :: xs).length = xs.length + 1 from rfl, List.range'_succ, List.append_assoc, List.append_assoc]
    rfl
theorem y_mx {mi : MM MIter} {vs : List Nat} {g : MG} {el : MM (List MV)} {s : MS} {S1 : β → MS} {e : β → MV} {v : β → Option (List α)} {xs : List β} {rows : List (List α)} (f : α → MV) (ei : mi s h = ok (.st (xs.map e)) h) (hl : xs.length ≤ 400000) (ht : ∀ x, g (e x) (wipeM s vs) = some (S1 x)) (hv : ∀ x y h, v x = some y → el (S1 x) h = ok (y.map f) h) (q : lcO (fun _ => some true) v xs = some rows) (hb : b ≤ h.length) :
    ∃ p R h1, refM (lcM mi vs g yesT (refM el)) s h = ok (.ref p) h1 ∧ Mx h1 b p R f rows ∧ Fr h [] h1 ∧ (∀ r ∈ p :: R, h.length ≤ r) := by
  have ll : rows.length = xs.length := by
    have go : ∀ {xs : List β} {rows : List (List α)}, lcO (fun _ => some true) v xs = some rows → rows.length = xs.length := by
      intro xs
      induction xs with
      | nil => intro rows q; cases q; rfl
      | cons x xs ih =>
        intro rows q
        obtain ⟨t, q1, q⟩ := obind q
        cases q1
        rw [if_pos rfl] at q
        obtain ⟨y, q2, q⟩ := obind q
        obtain ⟨r2, q3, q4⟩ := Option.map_eq_some_iff.mp q
        subst q4
        rw [List.length_cons, List.length_cons, ih q3]
    exact go q
  have e1 := lcS_refs ht hv (acc := []) (h := h) (by show 0 + _ ≤ _; omega) q
  rw [List.nil_append] at e1
  have mem : ∀ r, r ∈ List.range' h.length xs.length ↔ h.length ≤ r ∧ r < h.length + xs.length := fun r => List.mem_range'_1
  have H1 : ∀ i, i < h.length → (h ++ (rows.map fun r => MO.lst (r.map f)) ++ [MO.lst ((List.range' h.length xs.length).map MV.ref)])[i]? = h[i]? := fun i hi => by
    rw [List.append_assoc, List.getElem?_append_left hi]
  refine ⟨h.length + rows.length, List.range' h.length xs.length, h ++ (rows.map fun r => MO.lst (r.map f)) ++ [MO.lst ((List.range' h.length xs.length).map MV.ref)], (r_ref ((l_st ei).trans e1)).trans (by rw [List.length_append, List.length_map]), ⟨?_, ?_, List.nodup_cons.mpr ⟨fun z => ?_, List.nodup_range'⟩, fun r hr => ?_, fun i r row e2 e3 => ?_⟩, ⟨?_, fun i hi _ => H1 i hi⟩, fun r hr => ?_⟩
  · rw [List.getElem?_append_right (by rw [List.length_append, List.length_map]; omega), List.length_append, List.length_map, Nat.sub_self]
    rfl
  · rw [List.length_range', ll]
  · have := (mem _).mp z
    omega
  · rcases List.mem_cons.mp hr with z | z
    · omega
    · have := (mem _).mp z
      omega
  · obtain ⟨hi, e4⟩ := List.getElem?_eq_some_iff.mp e2
    rw [List.getElem_range', Nat.one_mul] at e4
    have hi2 : i < rows.length := (List.getElem?_eq_some_iff.mp e3).1
    rw [← e4, List.getElem?_append_left (by rw [List.length_append, List.length_map]; omega), List.getElem?_append_right (by omega), Nat.add_sub_cancel_left, List.getElem?_map, e3]
    rfl
  · rw [List.length_append, List.length_append]
    omega
  · rcases List.mem_cons.mp hr with z | z
    · omega
    · have := (mem _).mp z
      omega
theorem frzL_mx (hf : ∀ x, flatT (f x) = true) {n : Nat} : ∀ {R : List Nat} {tr : List (List α)} {h : MH}, R.Nodup → R.length = tr.length → (∀ (i r : Nat) (row : List α), R[i]? = some r → tr[i]? = some row → h[r]? = some (.lst (row.map f))) → ∃ h1, frzL (n + 2) (R.map MV.ref) h = some (tr.map fun r => MV.fls (r.map f), h1) ∧ (∀ q, q ∉ R → h1[q]? = h[q]?) ∧ h1.length = h.length
  | [], [], h, _, _, _ => ⟨h, by show frzL (n + 2) [] h = some ([], h); unfold frzL; rfl, fun _ _ => rfl, rfl⟩
  | [], _ :: _, _, _, l, _ => nomatch l
  | _ :: _, [], _, _, l, _ => nomatch l
  | r :: R, row :: tr, h, nd, l, w => by
    have nd := List.nodup_cons.mp nd
    have w0 := w 0 r row rfl rfl
    obtain ⟨h1, e1, k1, l1⟩ := frzL_mx hf (n := n) (R := R) (tr := tr) (h := h.set r .dead) nd.2 (Nat.succ.inj l) fun i q z e2 e3 => g_ne (w (i + 1) q z e2 e3) fun e => nd.1 (by rw [e]; exact List.mem_of_getElem? e2)
    refine ⟨h1, ?_, fun q hq => ?_, by rw [l1, List.length_set]⟩
    · rw [List.map_cons]
      unfold frzL
      have : frzV (n + 2) (.ref r) h = some (.fls (row.map f), h.set r .dead) := frz_lst (xs := row.map f) n w0 (all_flat hf)
      rw [this]
      dsimp only
      rw [e1]
      rfl
    · rw [k1 q fun z => hq (List.mem_cons_of_mem _ z), List.getElem?_set_ne fun e => hq (by rw [e]; exact List.mem_cons_self ..)]
theorem y_frzM {a : ME} {s : MS} (hf : ∀ x, flatT (f x) = true) (e : a s h = ok (.ref p) h1) (m : Mx h1 b p R f tr) : ∃ h2, frzM a s h = ok (.fls (tr.map fun r => MV.fls (r.map f))) h2 ∧ (∀ q, q ∉ p :: R → h2[q]? = h1[q]?) ∧ h2.length = h1.length := by
  obtain ⟨m1, m2, m3, m4, m5⟩ := m
  have nd := List.nodup_cons.mp m3
  obtain ⟨h2, e2, k2, l2⟩ := frzL_mx hf (n := 1) nd.2 m2 m5
  refine ⟨h2.set p .dead, ?_, fun q hq => ?_, by rw [List.length_set]; exact l2⟩
  · unfold frzM
    rw [e, bnd_ok]
    unfold frzV
    dsimp only
    rw [m1]
    dsimp only
    rw [e2]
  · rw [List.getElem?_set_ne fun z => hq (by rw [z]; exact List.mem_cons_self ..), k2 q fun z => hq (List.mem_cons_of_mem _ z)]
theorem Fr.keep (f : Fr h0 L h) (k : ∀ q, q ∉ p :: R → h1[q]? = h[q]?) (lo : ∀ r ∈ p :: R, h0.length ≤ r) (l : h1.length = h.length) : Fr h0 L h1 := ⟨by rw [l]; exact f.1, fun i hi hn => (k i fun z => by have := lo i z; omega).trans (f.2 i hi hn)⟩
section
variable {a d e : ME} {s : MS}
theorem y_mxrow (e1 : a s h = ok (.ref p) h1) (e2 : d s h1 = ok (nV i) h2) (m : Mx h2 b p R f tr) (er : R[i]? = some r) : opM ixF a d s h = ok (.ref r) h2 := y_ixg e1 e2 (sq_ref m.1) (by rw [atI_n, List.getElem?_map, er]; rfl)
theorem y_mxput {x : α} {er : ME} {row : List α} {zs : List MV} (e0 : e s h = ok (f x) h1) (e1 : a s h1 = ok (.ref r) h2) (e2 : d s h2 = ok (nV j) h3) (w : h3[r]? = some (.lst (row.map f))) (hj : j < row.length) (hh : h4 = h3.set r (.lst ((row.set j x).map f))) : subS e a d s h = some (.nx s h4) := y_put e0 e1 e2 w hj hh
theorem y_mxrep {k : MM (List MV)} {row : List α} (e0 : k s h = ok (row.map f) h1) (e1 : a s (h1 ++ [MO.lst (row.map f)]) = ok (.ref p) (h1 ++ [MO.lst (row.map f)])) (e2 : d s (h1 ++ [MO.lst (row.map f)]) = ok (nV i) (h1 ++ [MO.lst (row.map f)])) (m : Mx h1 b p R f tr) (hi : i < tr.length) (hq : q = h1.length) (hh : h2 = (h1 ++ [MO.lst (row.map f)]).set p (MO.lst ((R.set i q).map MV.ref))) : subS (refM k) a d s h = some (.nx s h2) := by
  refine t_sub ((r_ref e0).trans (by rw [← hq])) e1 e2 ((w_n (g_ap m.1) (by rw [List.length_map, m.2.1]; exact hi)).trans ?_)
  rw [hh, List.map_set]
end
end
end Mi
set_option maxHeartbeats 2000000
namespace Mi
open PySem L2
abbrev EX := Str × List (Str × PV)
inductive Rz (α : Type) where
  | ok (a : α) | ex (x : EX)
inductive Ot (σ ρ : Type) where
  | nx (a : σ) | rt (r : ρ) | ex (x : EX)
section
variable {σ ρ β : Type}
end
section
variable {s : MS} {h : MH} {x : EX} {a : Addr} {d : Option Addr} {i : Nat} {f : Str} {v : PV} {c : Bool}
end
section
variable {a b : ME} {s : MS} {h h1 h2 : MH} {i j : Nat}
end
section
variable {α : Type} {f : α → MV} {xs : List α} {a b c : ME} {s : MS} {h h1 h2 h3 : MH} {i j : Nat}
end
end Mi
set_option maxHeartbeats 2000000
namespace Mi
open PySem L2
def ltq (p q : Nat × Nat) : Prop := p.1 < q.1 ∨ (p.1 = q.1 ∧ p.2 < q.2)
instance (p q : Nat × Nat) : Decidable (ltq p q) := by unfold ltq; exact inferInstance
theorem lex_q {p q : Nat × Nat} : HT.lexLt [(p.1 : Int), (p.2 : Int)] [(q.1 : Int), (q.2 : Int)] = decide (ltq p q) := by
  unfold ltq
  simp only [HT.lexLt_cons, HT.lexLt_nil_nil]
  by_cases h1 : p.1 = q.1
  · by_cases h2 : p.2 = q.2
    · simp [h1, h2]
    · have h3 : ¬ ((p.2 : Int) = (q.2 : Int)) := by omega
      simp [h1, h2, h3]
  · have h3 : ¬ ((p.1 : Int) = (q.1 : Int)) := by omega
    simp [h1, h3]
theorem y_ltq {a b : ME} {s : MS} {h h1 h2 : MH} {p q : Nat × Nat} (e1 : a s h = ok (MV.tup [nV p.1, nV p.2]) h1) (e2 : b s h1 = ok (MV.tup [nV q.1, nV q.2]) h2) : opM ltAF a b s h = ok (.bl (decide (ltq p q))) h2 := r_op e1 e2 (by
  show ok (MV.bl (HT.lexLt [(p.1 : Int), (p.2 : Int)] [(q.1 : Int), (q.2 : Int)])) h2 = _
  rw [lex_q])
theorem ltq_tr {p q r : Nat × Nat} (a : ltq p q) (b : ltq q r) : ltq p r := by
  unfold ltq at *
  omega
theorem ss_q {P : List (Nat × Nat)} (S : P.Pairwise ltq) {i j : Nat} {p q : Nat × Nat} (hij : i < j) (ei : P[i]? = some p) (ej : P[j]? = some q) : ltq p q := by
  obtain ⟨h1, e1⟩ := List.getElem?_eq_some_iff.mp ei
  obtain ⟨h2, e2⟩ := List.getElem?_eq_some_iff.mp ej
  rw [← e1, ← e2]
  exact List.pairwise_iff_getElem.mp S i j h1 h2 hij
end Mi
set_option maxHeartbeats 2000000
namespace Mi.k10
open PySem L2
noncomputable section
def b1_law_pool : MT := (wipT [2] (setS 1 (opM modF (bltM intF (consA (opM addF (opM mulF (varM 1) (cM (.int 1000003))) (varM 2)) nilA)) (cM (.int 2305843009213693951)))))
def m_law_pool : MT := (seqS (setS 1 (cM (.int 7)))
    (seqS (preW [2] (forM (seqI (varM 0)) (one 2) b1_law_pool))
    (retS (dispM [("cells", (flsM (bltL lstF (consA (varM 0) nilA)))), ("at", (cM (.int 0))), ("rest", (cM (.int 0))), ("left", (cM (.int 0))), ("odd", (cM (.bl false))), ("seed", (varM 1)), ("turn", (cM (.int 0)))]))))
def f_law_pool : MF := cutF (defM 1 3 m_law_pool)
theorem n_law_pool : ∀ (xs : List MV) (h : MH), (f_law_pool xs h).isSome = true → xs.length = 1 := cut_len fun _ _ e => defM_len e
theorem x_law_pool {a0 : MV} {h : MH} : defM 1 3 m_law_pool [a0] h = defK (m_law_pool [some a0, none, none] h) := defM_K rfl
def m_law_mixed : MT := (seqS (setS 3 (cM (.int 2305843009213693951)))
    (seqS (setS 4 (opM modF (bltM intF (consA (opM addF (opM addF (opM mulF (varM 0) (cM (.int 48271))) (opM mulF (varM 1) (cM (.int 1000000000039)))) (cM (.int 12345678910111213))) nilA)) (varM 3)))
    (seqS (setS 5 (opM modF (opM mulF (bltM intF (consA (opM addF (opM mulF (varM 4) (varM 4)) (varM 1)) nilA)) (cM (.int 7046029254386353))) (varM 3)))
    (retS (opM modF (opM divF (varM 5) (cM (.int 8))) (varM 2))))))
def f_law_mixed : MF := defM 3 6 m_law_mixed
theorem n_law_mixed : ∀ (xs : List MV) (h : MH), (f_law_mixed xs h).isSome = true → xs.length = 3 := fun _ _ e => defM_len e
theorem x_law_mixed {a0 a1 a2 : MV} {h : MH} : defM 3 6 m_law_mixed [a0, a1, a2] h = defK (m_law_mixed [some a0, some a1, some a2, none, none, none] h) := defM_K rfl
def m_law_take : MT := (seqS (dputS (opM addF (opM dgetF (varM 0) (cM (.str "turn"))) (cM (.int 1))) (varM 0) (cM (.str "turn")))
    (seqS (ifS (andT (tstM (opM eqF (opM dgetF (varM 0) (cM (.str "left"))) (cM (.int 0)))) (tstM (opM ltF (opM dgetF (varM 0) (cM (.str "at"))) (bltM lenF (consA (opM dgetF (varM 0) (cM (.str "cells"))) nilA))))) (seqS (setS 2 (bltM intF (consA (opM ixF (opM dgetF (varM 0) (cM (.str "cells"))) (opM dgetF (varM 0) (cM (.str "at")))) nilA)))
    (seqS (dputS (opM addF (opM dgetF (varM 0) (cM (.str "at"))) (cM (.int 1))) (varM 0) (cM (.str "at")))
    (seqS (dputS (opM eqF (opM modF (varM 2) (cM (.int 2))) (cM (.int 1))) (varM 0) (cM (.str "odd")))
    (seqS (dputS (opM divF (bltM absF (consA (varM 2) nilA)) (cM (.int 2))) (varM 0) (cM (.str "rest")))
    (dputS (opM ixF (flsM (lstM (consA (cM (.int 60)) (consA (cM (.int 6)) nilA)))) (bltM intF (consA (opM dgetF (varM 0) (cM (.str "odd"))) nilA))) (varM 0) (cM (.str "left"))))))) nilS)
    (seqS (ifS (tstM (opM eqF (opM dgetF (varM 0) (cM (.str "left"))) (cM (.int 0)))) (retS (callM f_law_mixed [] (consA (opM dgetF (varM 0) (cM (.str "seed"))) (consA (opM dgetF (varM 0) (cM (.str "turn"))) (consA (varM 1) nilA))))) nilS)
    (seqS (dputS (opM subF (opM dgetF (varM 0) (cM (.str "left"))) (cM (.int 1))) (varM 0) (cM (.str "left")))
    (seqS (ifS (truM (opM dgetF (varM 0) (cM (.str "odd")))) (retS (callM f_law_mixed [] (consA (opM dgetF (varM 0) (cM (.str "rest"))) (consA (opM dgetF (varM 0) (cM (.str "turn"))) (consA (varM 1) nilA))))) nilS)
    (seqS (setS 3 (opM modF (bltM intF (consA (opM dgetF (varM 0) (cM (.str "rest"))) nilA)) (varM 1)))
    (seqS (dputS (opM divF (opM dgetF (varM 0) (cM (.str "rest"))) (varM 1)) (varM 0) (cM (.str "rest")))
    (seqS (ifS (tstM (opM eqF (opM dgetF (varM 0) (cM (.str "rest"))) (cM (.int 0)))) (dputS (cM (.int 0)) (varM 0) (cM (.str "left"))) nilS)
    (retS (varM 3))))))))))
def f_law_take : MF := defM 2 4 m_law_take
theorem n_law_take : ∀ (xs : List MV) (h : MH), (f_law_take xs h).isSome = true → xs.length = 2 := fun _ _ e => defM_len e
theorem x_law_take {a0 a1 : MV} {h : MH} : defM 2 4 m_law_take [a0, a1] h = defK (m_law_take [some a0, some a1, none, none] h) := defM_K rfl
def m_law_names : MT := (seqS (ifS (tstM (opM eqF (callM f_law_take [] (consA (varM 0) (consA (cM (.int 4)) nilA))) (cM (.int 0)))) (retS (flsM (rgL (varM 1)))) nilS)
    (seqS (setS 2 (refM (rgL (varM 1))))
    (retS (flsM (lcM (rng1 (consA (varM 1) nilA)) [3] (one 3) yesT (mthM popAtF (varM 2) (consA (callM f_law_take [] (consA (varM 0) (consA (bltM lenF (consA (varM 2) nilA)) nilA))) nilA)))))))
def f_law_names : MF := cutF (defM 2 4 m_law_names)
theorem n_law_names : ∀ (xs : List MV) (h : MH), (f_law_names xs h).isSome = true → xs.length = 2 := cut_len fun _ _ e => defM_len e
theorem x_law_names {a0 a1 : MV} {h : MH} : defM 2 4 m_law_names [a0, a1] h = defK (m_law_names [some a0, some a1, none, none] h) := defM_K rfl
def b1_law_space : MT := (wipT [7] (subS (opM ixF (opM ixF (varM 1) (varM 5)) (varM 7)) (varM 6) (opM ixF (varM 0) (varM 7))))
def b2_law_space : MT := (wipT [5, 6, 7] (seqS (setS 6 (opM ixF (varM 3) (opM ixF (varM 0) (varM 5))))
    (preW [7] (forM (rng1 (consA (varM 2) nilA)) (one 7) b1_law_space))))
def b3_law_space : MT := (wipT [9] (setS 8 (flsM (catL (varM 8) (flsM (lcM (rng1 (consA (varM 2) nilA)) [10] (one 10) (tstM (opM eqF (opM ixF (opM ixF (varM 3) (varM 9)) (varM 10)) (cM (.int 1)))) (tupM (consA (varM 9) (consA (varM 10) nilA)))))))))
def m_law_space : MT := (seqS (setS 2 (bltM lenF (consA (varM 0) nilA)))
    (seqS (setS 3 (refM (lcM (rng1 (consA (varM 2) nilA)) [4] (one 4) yesT (refM (repL (flsM (lstM (consA (cM (.int 0)) nilA))) (varM 2))))))
    (seqS (preW [5, 6, 7] (forM (rng1 (consA (varM 2) nilA)) (one 5) b2_law_space))
    (seqS (setS 8 (flsM (lstM nilA)))
    (seqS (preW [9] (forM (rng1 (consA (varM 2) nilA)) (one 9) b3_law_space))
    (retS (dispM [("order", (tupM (consA (varM 2) (consA (bltM tupF (consA (varM 8) nilA)) nilA)))), ("under", (frzM (varM 3))), ("names", (varM 0))])))))))
def f_law_space : MF := cutF (defM 2 11 m_law_space)
theorem n_law_space : ∀ (xs : List MV) (h : MH), (f_law_space xs h).isSome = true → xs.length = 2 := cut_len fun _ _ e => defM_len e
theorem x_law_space {a0 a1 : MV} {h : MH} : defM 2 11 m_law_space [a0, a1] h = defK (m_law_space [some a0, some a1, none, none, none, none, none, none, none, none, none] h) := defM_K rfl
def m_law_floors : MT := (seqS (setS 3 (flsM (lcM (rng1 (consA (varM 1) nilA)) [5] (one 5) yesT (flsM (lcM (rng1 (consA (varM 1) nilA)) [4] (one 4) yesT (bltM intF (consA (opM ltF (opM divF (varM 5) (varM 2)) (opM divF (varM 4) (varM 2))) nilA)))))))
    (retS (callM f_law_space [] (consA (callM f_law_names [] (consA (varM 0) (consA (varM 1) nilA))) (consA (varM 3) nilA)))))
def f_law_floors : MF := defM 3 6 m_law_floors
theorem n_law_floors : ∀ (xs : List MV) (h : MH), (f_law_floors xs h).isSome = true → xs.length = 3 := fun _ _ e => defM_len e
theorem x_law_floors {a0 a1 a2 : MV} {h : MH} : defM 3 6 m_law_floors [a0, a1, a2] h = defK (m_law_floors [some a0, some a1, some a2, none, none, none] h) := defM_K rfl
def b1_law_drawn : MT := (wipT [7] (subS (bltM intF (consA (opM eqF (callM f_law_take [] (consA (varM 0) (consA (opM ixF (flsM (lstM (consA (cM (.int 2)) (consA (cM (.int 3)) (consA (cM (.int 4)) (consA (cM (.int 6)) nilA)))))) (opM subF (varM 2) (cM (.int 2)))) nilA))) (cM (.int 0))) nilA)) (varM 6) (varM 7)))
def b2_law_drawn : MT := (wipT [5, 6, 7] (seqS (setS 6 (opM ixF (varM 3) (varM 5)))
    (preW [7] (forM (rng2 (consA (opM addF (varM 5) (cM (.int 1))) (consA (varM 1) nilA))) (one 7) b1_law_drawn))))
def b3_law_drawn : MT := (wipT [5] (ifS (tstM (opM eqF (opM ixF (opM ixF (varM 3) (varM 5)) (varM 4)) (cM (.int 1)))) (subS (refM (lcM (rng1 (consA (varM 1) nilA)) [7] (one 7) yesT (bltM intF (consA (opM gtF (opM addF (opM ixF (opM ixF (varM 3) (varM 5)) (varM 7)) (opM ixF (opM ixF (varM 3) (varM 4)) (varM 7))) (cM (.int 0))) nilA)))) (varM 3) (varM 5)) nilS))
def b4_law_drawn : MT := (wipT [4, 5] (preW [5] (forM (rng1 (consA (varM 4) nilA)) (one 5) b3_law_drawn)))
def m_law_drawn : MT := (seqS (setS 2 (callM f_law_take [] (consA (varM 0) (consA (cM (.int 6)) nilA))))
    (seqS (ifS (tstM (opM ltF (varM 2) (cM (.int 2)))) (retS (callM f_law_floors [] (consA (varM 0) (consA (varM 1) (consA (opM addF (cM (.int 1)) (callM f_law_take [] (consA (varM 0) (consA (opM addF (varM 1) (cM (.int 1))) nilA)))) nilA))))) nilS)
    (seqS (setS 3 (refM (lcM (rng1 (consA (varM 1) nilA)) [4] (one 4) yesT (refM (repL (flsM (lstM (consA (cM (.int 0)) nilA))) (varM 1))))))
    (seqS (preW [5, 6, 7] (forM (rng1 (consA (varM 1) nilA)) (one 5) b2_law_drawn))
    (seqS (preW [4, 5] (forM (rng1 (consA (varM 1) nilA)) (one 4) b4_law_drawn))
    (retS (callM f_law_space [] (consA (callM f_law_names [] (consA (varM 0) (consA (varM 1) nilA))) (consA (frzM (varM 3)) nilA)))))))))
def f_law_drawn : MF := cutF (defM 2 8 m_law_drawn)
theorem n_law_drawn : ∀ (xs : List MV) (h : MH), (f_law_drawn xs h).isSome = true → xs.length = 2 := cut_len fun _ _ e => defM_len e
theorem x_law_drawn {a0 a1 : MV} {h : MH} : defM 2 8 m_law_drawn [a0, a1] h = defK (m_law_drawn [some a0, some a1, none, none, none, none, none, none] h) := defM_K rfl
def m_law_leq : MT := (retS (orV (opM eqF (varM 1) (varM 2)) (opM eqF (opM ixF (opM ixF (opM dgetF (varM 0) (cM (.str "under"))) (varM 1)) (varM 2)) (cM (.int 1)))))
def f_law_leq : MF := defM 3 3 m_law_leq
theorem n_law_leq : ∀ (xs : List MV) (h : MH), (f_law_leq xs h).isSome = true → xs.length = 3 := fun _ _ e => defM_len e
theorem x_law_leq {a0 a1 a2 : MV} {h : MH} : defM 3 3 m_law_leq [a0, a1, a2] h = defK (m_law_leq [some a0, some a1, some a2] h) := defM_K rfl
def m_law_bounds : MT := (retS (opM eqF (bltM lenF (consA (flsM (lcM (seqI (varM 1)) [3] (one 3) (notT (truM (callM f_law_leq [] (consA (varM 0) (consA (varM 3) (consA (varM 2) nilA)))))) (varM 3))) nilA)) (cM (.int 0))))
def f_law_bounds : MF := defM 3 4 m_law_bounds
theorem n_law_bounds : ∀ (xs : List MV) (h : MH), (f_law_bounds xs h).isSome = true → xs.length = 3 := fun _ _ e => defM_len e
theorem x_law_bounds {a0 a1 a2 : MV} {h : MH} : defM 3 4 m_law_bounds [a0, a1, a2] h = defK (m_law_bounds [some a0, some a1, some a2, none] h) := defM_K rfl
def b1_law_map : MT := (wipT [6, 7, 9, 11] (seqS (setS 7 (flsM (lcM (seqI (sliT (varM 3) noO (someO (varM 6)))) [8] (one 8) (tstM (opM eqF (opM ixF (opM ixF (opM dgetF (varM 1) (cM (.str "under"))) (varM 8)) (opM ixF (varM 3) (varM 6))) (cM (.int 1)))) (opM ixF (varM 4) (varM 8)))))
    (seqS (setS 9 (flsM (lcM (rng1 (consA (opM ixF (opM dgetF (varM 2) (cM (.str "order"))) (cM (.int 0))) nilA)) [10] (one 10) (truM (callM f_law_bounds [] (consA (varM 2) (consA (varM 7) (consA (varM 10) nilA))))) (varM 10))))
    (seqS (ifS (tstM (opM eqF (bltM lenF (consA (varM 9) nilA)) (cM (.int 0)))) (seqS (setS 11 (callM f_law_take [] (consA (varM 0) (consA (opM ixF (opM dgetF (varM 2) (cM (.str "order"))) (cM (.int 0))) nilA))))
    (retS (bltM tupF (consA (flsM (lcM (seqI (varM 3)) [5] (one 5) yesT (varM 11))) nilA)))) nilS)
    (subS (opM ixF (varM 9) (callM f_law_take [] (consA (varM 0) (consA (bltM lenF (consA (varM 9) nilA)) nilA)))) (varM 4) (opM ixF (varM 3) (varM 6)))))))
def m_law_map : MT := (seqS (setS 3 (opM dgetF (varM 1) (cM (.str "names"))))
    (seqS (setS 4 (refM (lcM (seqI (varM 3)) [5] (one 5) yesT (cM (.int 0)))))
    (seqS (preW [6, 7, 9, 11] (forM (rng1 (consA (bltM lenF (consA (varM 3) nilA)) nilA)) (one 6) b1_law_map))
    (retS (bltM tupF (consA (varM 4) nilA))))))
def f_law_map : MF := cutF (defM 3 12 m_law_map)
theorem n_law_map : ∀ (xs : List MV) (h : MH), (f_law_map xs h).isSome = true → xs.length = 3 := cut_len fun _ _ e => defM_len e
theorem x_law_map {a0 a1 a2 : MV} {h : MH} : defM 3 12 m_law_map [a0, a1, a2] h = defK (m_law_map [some a0, some a1, some a2, none, none, none, none, none, none, none, none, none] h) := defM_K rfl
def b1_law_rises : MT := (wipT [3, 4] (ifS (notT (truM (callM f_law_leq [] (consA (varM 1) (consA (opM ixF (varM 2) (varM 3)) (consA (opM ixF (varM 2) (varM 4)) nilA)))))) (retS (cM (.bl false))) nilS))
def m_law_rises : MT := (seqS (preW [3, 4] (forM (seqI (opM ixF (opM dgetF (varM 0) (cM (.str "order"))) (cM (.int 1)))) (unp [3, 4]) b1_law_rises))
    (retS (cM (.bl true))))
def f_law_rises : MF := defM 3 5 m_law_rises
theorem n_law_rises : ∀ (xs : List MV) (h : MH), (f_law_rises xs h).isSome = true → xs.length = 3 := fun _ _ e => defM_len e
theorem x_law_rises {a0 a1 a2 : MV} {h : MH} : defM 3 5 m_law_rises [a0, a1, a2] h = defK (m_law_rises [some a0, some a1, some a2, none, none] h) := defM_K rfl
def b1_law_moved : MT := (wipT [6, 7, 8, 9, 10] (seqS (setS 7 (callM f_law_take [] (consA (varM 0) (consA (varM 5) nilA))))
    (seqS (setS 8 (callM f_law_take [] (consA (varM 0) (consA (opM ixF (opM dgetF (varM 2) (cM (.str "order"))) (cM (.int 0))) nilA))))
    (seqS (setS 9 (opM addF (opM addF (sliT (varM 3) noO (someO (varM 7))) (tupM (consA (varM 8) nilA))) (sliT (varM 3) (someO (opM addF (varM 7) (cM (.int 1)))) noO)))
    (seqS (setS 10 (opM ixF (flsM (lstM (consA (flsM (lstM (consA (varM 8) (consA (opM ixF (varM 3) (varM 7)) nilA)))) (consA (flsM (lstM (consA (opM ixF (varM 3) (varM 7)) (consA (varM 8) nilA)))) nilA)))) (bltM intF (consA (varM 4) nilA))))
    (ifS (andT (truM (callM f_law_leq [] (consA (varM 2) (consA (opM ixF (varM 10) (cM (.int 0))) (consA (opM ixF (varM 10) (cM (.int 1))) nilA))))) (truM (callM f_law_rises [] (consA (varM 1) (consA (varM 2) (consA (varM 9) nilA)))))) (setS 3 (varM 9)) nilS))))))
def m_law_moved : MT := (seqS (setS 5 (bltM lenF (consA (varM 3) nilA)))
    (seqS (preW [6, 7, 8, 9, 10] (forM (rng1 (consA (opM mulF (callM f_law_take [] (consA (varM 0) (consA (cM (.int 8)) nilA))) (bltM intF (consA (opM gtF (varM 5) (cM (.int 0))) nilA))) nilA)) (one 6) b1_law_moved))
    (retS (varM 3))))
def f_law_moved : MF := defM 5 11 m_law_moved
theorem n_law_moved : ∀ (xs : List MV) (h : MH), (f_law_moved xs h).isSome = true → xs.length = 5 := fun _ _ e => defM_len e
theorem x_law_moved {a0 a1 a2 a3 a4 : MV} {h : MH} : defM 5 11 m_law_moved [a0, a1, a2, a3, a4] h = defK (m_law_moved [some a0, some a1, some a2, some a3, some a4, none, none, none, none, none, none] h) := defM_K rfl
def b1_law_sizes : MT := (wipT [2] (subS (cM (.int 0)) (varM 1) (varM 2)))
def m_law_sizes : MT := (seqS (setS 1 (refM (lcM (rng1 (consA (cM (.int 4)) nilA)) [2] (one 2) yesT (opM addF (cM (.int 1)) (callM f_law_take [] (consA (varM 0) (consA (cM (.int 7)) nilA)))))))
    (seqS (ifS (tstM (opM eqF (callM f_law_take [] (consA (varM 0) (consA (cM (.int 8)) nilA))) (cM (.int 0)))) (preW [2] (forM (rng1 (consA (opM addF (cM (.int 1)) (callM f_law_take [] (consA (varM 0) (consA (cM (.int 3)) nilA)))) nilA)) (one 2) b1_law_sizes)) nilS)
    (retS (frzM (varM 1)))))
def f_law_sizes : MF := cutF (defM 1 3 m_law_sizes)
theorem n_law_sizes : ∀ (xs : List MV) (h : MH), (f_law_sizes xs h).isSome = true → xs.length = 1 := cut_len fun _ _ e => defM_len e
theorem x_law_sizes {a0 : MV} {h : MH} : defM 1 3 m_law_sizes [a0] h = defK (m_law_sizes [some a0, none, none] h) := defM_K rfl
def m_identity_map : MT := (retS (rgT (opM ixF (varM 0) (cM (.int 0)))))
def f_identity_map : MF := defM 1 1 m_identity_map
theorem n_identity_map : ∀ (xs : List MV) (h : MH), (f_identity_map xs h).isSome = true → xs.length = 1 := fun _ _ e => defM_len e
theorem x_identity_map {a0 : MV} {h : MH} : defM 1 1 m_identity_map [a0] h = defK (m_identity_map [some a0] h) := defM_K rfl
def m_compose : MT := (retS (bltM tupF (consA (flsM (lcM (seqI (varM 0)) [2] (one 2) yesT (opM ixF (varM 1) (varM 2)))) nilA)))
def f_compose : MF := defM 2 3 m_compose
theorem n_compose : ∀ (xs : List MV) (h : MH), (f_compose xs h).isSome = true → xs.length = 2 := fun _ _ e => defM_len e
theorem x_compose {a0 a1 : MV} {h : MH} : defM 2 3 m_compose [a0, a1] h = defK (m_compose [some a0, some a1, none] h) := defM_K rfl
def b1_law_same (r : MF) : MT := (wipT [2] (ifS (notT (truM (callM r [] (consA (opM ixF (varM 0) (varM 2)) (consA (opM ixF (varM 1) (varM 2)) nilA))))) (retS (cM (.bl false))) nilS))
def m_law_same (r : MF) : MT := (seqS (ifS (truM (isiM [.tuple] (varM 1))) (seqS (ifS (orT (notT (truM (isiM [.tuple] (varM 0)))) (tstM (opM neF (bltM lenF (consA (varM 0) nilA)) (bltM lenF (consA (varM 1) nilA))))) (retS (cM (.bl false))) nilS)
    (seqS (preW [2] (forM (rng1 (consA (bltM lenF (consA (varM 1) nilA)) nilA)) (one 2) (b1_law_same r)))
    (retS (cM (.bl true))))) nilS)
    (seqS (ifS (tstM (opM isF (varM 1) (cM .non))) (retS (opM isF (varM 0) (cM .non))) nilS)
    (seqS (ifS (truM (isiM [.bool] (varM 1))) (retS (andV (isiM [.bool] (varM 0)) (opM eqF (varM 0) (varM 1)))) nilS)
    (seqS (ifS (truM (isiM [.str] (varM 1))) (retS (andV (isiM [.str] (varM 0)) (opM eqF (varM 0) (varM 1)))) nilS)
    (retS (andV (isiM [.int] (varM 0)) (andV (notV (isiM [.bool] (varM 0))) (opM eqF (varM 0) (varM 1)))))))))
def fr_law_same : Nat → MF
  | 0 => fun _ _ => none
  | k + 1 => defM 2 3 (m_law_same (fr_law_same k))
def f_law_same : MF := fr_law_same 8
theorem nr_law_same : ∀ (k : Nat) (xs : List MV) (h : MH), (fr_law_same k xs h).isSome = true → xs.length = 2
  | 0, _, _, e => by cases e
  | _ + 1, _, _, e => defM_len e
theorem n_law_same : ∀ (xs : List MV) (h : MH), (f_law_same xs h).isSome = true → xs.length = 2 := nr_law_same _
theorem x_law_same (k : Nat) {a0 a1 : MV} {h : MH} : defM 2 3 (m_law_same (fr_law_same k)) [a0, a1] h = defK (m_law_same (fr_law_same k) [some a0, some a1, none] h) := defM_K rfl
def b1_law_composed : MT := (wipT [3] (setS 2 (opM addF (varM 2) (tupM (consA (opM ixF (varM 1) (varM 3)) nilA)))))
def m_law_composed : MT := (seqS (setS 2 (tupM nilA))
    (seqS (preW [3] (forM (seqI (varM 0)) (one 3) b1_law_composed))
    (retS (varM 2))))
def f_law_composed : MF := defM 2 4 m_law_composed
theorem n_law_composed : ∀ (xs : List MV) (h : MH), (f_law_composed xs h).isSome = true → xs.length = 2 := fun _ _ e => defM_len e
theorem x_law_composed {a0 a1 : MV} {h : MH} : defM 2 4 m_law_composed [a0, a1] h = defK (m_law_composed [some a0, some a1, none, none] h) := defM_K rfl
def b1_law_composes_right : MT := (wipT [5] (ifS (notT (truM (callM f_law_same [] (consA (opM ixF (varM 4) (varM 5)) (consA (rgT (opM ixF (opM dgetF (opM ixF (varM 0) (opM addF (varM 2) (varM 5))) (cM (.str "order"))) (cM (.int 0)))) nilA))))) (retS (cM (.bl false))) nilS))
def b2_law_composes_right : MT := (wipT [2, 3, 4, 5] (seqS (setS 3 (opM ixF (varM 1) (varM 2)))
    (seqS (setS 4 (flsM (lstM (consA (callM f_identity_map [] (consA (opM dgetF (opM ixF (varM 0) (varM 2)) (cM (.str "order"))) nilA)) (consA (callKM f_identity_map 0 1 [0] [] nilA (consA (opM dgetF (opM ixF (varM 0) (opM addF (varM 2) (cM (.int 1)))) (cM (.str "order"))) nilA)) nilA)))))
    (seqS (preW [5] (forM (rng1 (consA (cM (.int 2)) nilA)) (one 5) b1_law_composes_right))
    (ifS (orT (notT (truM (callM f_law_same [] (consA (callM f_compose [] (consA (opM ixF (varM 4) (cM (.int 0))) (consA (varM 3) nilA))) (consA (varM 3) nilA))))) (notT (truM (callM f_law_same [] (consA (callKM f_compose 0 2 [0, 1] [] nilA (consA (varM 3) (consA (opM ixF (varM 4) (cM (.int 1))) nilA))) (consA (varM 3) nilA)))))) (retS (cM (.bl false))) nilS)))))
def m_law_composes_right : MT := (seqS (preW [2, 3, 4, 5] (forM (rng1 (consA (cM (.int 3)) nilA)) (one 2) b2_law_composes_right))
    (seqS (setS 6 (callM f_law_composed [] (consA (opM ixF (varM 1) (cM (.int 0))) (consA (opM ixF (varM 1) (cM (.int 1))) nilA))))
    (seqS (setS 7 (callM f_law_composed [] (consA (opM ixF (varM 1) (cM (.int 1))) (consA (opM ixF (varM 1) (cM (.int 2))) nilA))))
    (seqS (ifS (orT (notT (truM (callM f_law_same [] (consA (callM f_compose [] (consA (opM ixF (varM 1) (cM (.int 0))) (consA (opM ixF (varM 1) (cM (.int 1))) nilA))) (consA (varM 6) nilA))))) (notT (truM (callM f_law_same [] (consA (callKM f_compose 0 2 [1, 0] [] nilA (consA (opM ixF (varM 1) (cM (.int 2))) (consA (opM ixF (varM 1) (cM (.int 1))) nilA))) (consA (varM 7) nilA)))))) (retS (cM (.bl false))) nilS)
    (seqS (setS 8 (bltM tupF (consA (flsM (lcM (seqI (varM 6)) [9] (one 9) yesT (opM ixF (opM ixF (varM 1) (cM (.int 2))) (varM 9)))) nilA)))
    (retS (andV (callM f_law_same [] (consA (callM f_compose [] (consA (varM 6) (consA (opM ixF (varM 1) (cM (.int 2))) nilA))) (consA (varM 8) nilA))) (callM f_law_same [] (consA (callM f_compose [] (consA (opM ixF (varM 1) (cM (.int 0))) (consA (varM 7) nilA))) (consA (varM 8) nilA))))))))))
def f_law_composes_right : MF := defM 2 10 m_law_composes_right
theorem n_law_composes_right : ∀ (xs : List MV) (h : MH), (f_law_composes_right xs h).isSome = true → xs.length = 2 := fun _ _ e => defM_len e
theorem x_law_composes_right {a0 a1 : MV} {h : MH} : defM 2 10 m_law_composes_right [a0, a1] h = defK (m_law_composes_right [some a0, some a1, none, none, none, none, none, none, none, none] h) := defM_K rfl
def m_law_turns_right : MT := (seqS (setS 2 (callM f_law_map [] (consA (varM 0) (consA (varM 1) (consA (varM 1) nilA)))))
    (seqS (setS 3 (callM f_law_map [] (consA (varM 0) (consA (varM 1) (consA (varM 1) nilA)))))
    (seqS (ifS (notT (truM (callM f_law_same [] (consA (callM f_compose [] (consA (varM 2) (consA (varM 3) nilA))) (consA (callM f_law_composed [] (consA (varM 2) (consA (varM 3) nilA))) nilA))))) (retS (cM (.bl false))) nilS)
    (retS (callM f_law_same [] (consA (callM f_compose [] (consA (varM 3) (consA (varM 2) nilA))) (consA (callM f_law_composed [] (consA (varM 3) (consA (varM 2) nilA))) nilA)))))))
def f_law_turns_right : MF := defM 2 4 m_law_turns_right
theorem n_law_turns_right : ∀ (xs : List MV) (h : MH), (f_law_turns_right xs h).isSome = true → xs.length = 2 := fun _ _ e => defM_len e
theorem x_law_turns_right {a0 a1 : MV} {h : MH} : defM 2 4 m_law_turns_right [a0, a1] h = defK (m_law_turns_right [some a0, some a1, none, none] h) := defM_K rfl
def b1_is_below : MT := (wipT [6] (seqS (setS 6 (opM divF (opM addF (varM 4) (varM 5)) (cM (.int 2))))
    (ifS (tstM (opM ltAF (opM ixF (varM 3) (varM 6)) (tupM (consA (varM 1) (consA (varM 2) nilA))))) (setS 4 (opM addF (varM 6) (cM (.int 1)))) (setS 5 (varM 6)))))
def m_is_below : MT := (seqS (setS 3 (opM ixF (varM 0) (cM (.int 1))))
    (seqS (setS 4 (cM (.int 0)))
    (seqS (setS 5 (bltM lenF (consA (varM 3) nilA)))
    (seqS (preW [6] (whlG (tstM (opM ltF (varM 4) (varM 5))) b1_is_below 1000000))
    (retS (andV (opM ltF (varM 4) (bltM lenF (consA (varM 3) nilA))) (opM eqF (opM ixF (varM 3) (varM 4)) (tupM (consA (varM 1) (consA (varM 2) nilA))))))))))
def f_is_below : MF := defM 3 7 m_is_below
theorem n_is_below : ∀ (xs : List MV) (h : MH), (f_is_below xs h).isSome = true → xs.length = 3 := fun _ _ e => defM_len e
theorem x_is_below {a0 a1 a2 : MV} {h : MH} : defM 3 7 m_is_below [a0, a1, a2] h = defK (m_is_below [some a0, some a1, some a2, none, none, none, none] h) := defM_K rfl
def b1_at_most : MT := (wipT [3, 4] (ifS (andT (tstM (opM neF (varM 4) (opM ixF (varM 2) (varM 3)))) (notT (truM (callM f_is_below [] (consA (varM 0) (consA (varM 4) (consA (opM ixF (varM 2) (varM 3)) nilA))))))) (retS (cM (.bl false))) nilS))
def m_at_most : MT := (seqS (preW [3, 4] (forM (enmI (consA (varM 1) nilA)) (unp [3, 4]) b1_at_most))
    (retS (cM (.bl true))))
def f_at_most : MF := defM 3 5 m_at_most
theorem n_at_most : ∀ (xs : List MV) (h : MH), (f_at_most xs h).isSome = true → xs.length = 3 := fun _ _ e => defM_len e
theorem x_at_most {a0 a1 a2 : MV} {h : MH} : defM 3 5 m_at_most [a0, a1, a2] h = defK (m_at_most [some a0, some a1, some a2, none, none] h) := defM_K rfl
def m_are_neighbours : MT := (retS (orV (callM f_at_most [] (consA (varM 0) (consA (varM 1) (consA (varM 2) nilA)))) (callM f_at_most [] (consA (varM 0) (consA (varM 2) (consA (varM 1) nilA))))))
def f_are_neighbours : MF := defM 3 3 m_are_neighbours
theorem n_are_neighbours : ∀ (xs : List MV) (h : MH), (f_are_neighbours xs h).isSome = true → xs.length = 3 := fun _ _ e => defM_len e
theorem x_are_neighbours {a0 a1 a2 : MV} {h : MH} : defM 3 3 m_are_neighbours [a0, a1, a2] h = defK (m_are_neighbours [some a0, some a1, some a2] h) := defM_K rfl
def m_law_is_most : MT := (retS (opM eqF (bltM lenF (consA (flsM (lcM (rng1 (consA (bltM lenF (consA (varM 1) nilA)) nilA)) [3] (one 3) (notT (truM (callM f_law_leq [] (consA (varM 0) (consA (opM ixF (varM 1) (varM 3)) (consA (opM ixF (varM 2) (varM 3)) nilA)))))) (varM 3))) nilA)) (cM (.int 0))))
def f_law_is_most : MF := defM 3 4 m_law_is_most
theorem n_law_is_most : ∀ (xs : List MV) (h : MH), (f_law_is_most xs h).isSome = true → xs.length = 3 := fun _ _ e => defM_len e
theorem x_law_is_most {a0 a1 a2 : MV} {h : MH} : defM 3 4 m_law_is_most [a0, a1, a2] h = defK (m_law_is_most [some a0, some a1, some a2, none] h) := defM_K rfl
def m_law_whether : MT := (retS (andV (isiM [.bool] (varM 0)) (opM eqF (varM 0) (varM 1))))
def f_law_whether : MF := defM 2 2 m_law_whether
theorem n_law_whether : ∀ (xs : List MV) (h : MH), (f_law_whether xs h).isSome = true → xs.length = 2 := fun _ _ e => defM_len e
theorem x_law_whether {a0 a1 : MV} {h : MH} : defM 2 2 m_law_whether [a0, a1] h = defK (m_law_whether [some a0, some a1] h) := defM_K rfl
def b1_law_pairs_right : MT := (wipT [3, 4, 5] (seqS (setS 4 (callM f_law_is_most [] (consA (varM 0) (consA (varM 2) (consA (varM 3) nilA)))))
    (seqS (setS 5 (orV (varM 4) (callM f_law_is_most [] (consA (varM 0) (consA (varM 3) (consA (varM 2) nilA))))))
    (seqS (ifS (notT (truM (callM f_law_whether [] (consA (callM f_at_most [] (consA (opM dgetF (varM 0) (cM (.str "order"))) (consA (varM 2) (consA (varM 3) nilA)))) (consA (varM 4) nilA))))) (retS (cM (.bl false))) nilS)
    (seqS (ifS (notT (truM (callM f_law_whether [] (consA (callKM f_at_most 0 3 [2, 1, 0] [] nilA (consA (varM 3) (consA (varM 2) (consA (opM dgetF (varM 0) (cM (.str "order"))) nilA)))) (consA (varM 4) nilA))))) (retS (cM (.bl false))) nilS)
    (seqS (ifS (notT (truM (callM f_law_whether [] (consA (callM f_are_neighbours [] (consA (opM dgetF (varM 0) (cM (.str "order"))) (consA (varM 2) (consA (varM 3) nilA)))) (consA (varM 5) nilA))))) (retS (cM (.bl false))) nilS)
    (ifS (notT (truM (callM f_law_whether [] (consA (callKM f_are_neighbours 0 3 [2, 1, 0] [] nilA (consA (varM 2) (consA (varM 3) (consA (opM dgetF (varM 0) (cM (.str "order"))) nilA)))) (consA (varM 5) nilA))))) (retS (cM (.bl false))) nilS)))))))
def b2_law_pairs_right : MT := (wipT [2, 3, 4, 5] (preW [3, 4, 5] (forM (seqI (varM 1)) (one 3) b1_law_pairs_right)))
def m_law_pairs_right : MT := (seqS (preW [2, 3, 4, 5] (forM (seqI (varM 1)) (one 2) b2_law_pairs_right))
    (retS (cM (.bl true))))
def f_law_pairs_right : MF := defM 2 6 m_law_pairs_right
theorem n_law_pairs_right : ∀ (xs : List MV) (h : MH), (f_law_pairs_right xs h).isSome = true → xs.length = 2 := fun _ _ e => defM_len e
theorem x_law_pairs_right {a0 a1 : MV} {h : MH} : defM 2 6 m_law_pairs_right [a0, a1] h = defK (m_law_pairs_right [some a0, some a1, none, none, none, none] h) := defM_K rfl
def m_law : MT := (seqS (setS 1 (callM f_law_pool [] (consA (varM 0) nilA)))
    (seqS (setS 2 (flsM (lcM (seqI (callM f_law_sizes [] (consA (varM 1) nilA))) [3] (one 3) yesT (callM f_law_drawn [] (consA (varM 1) (consA (varM 3) nilA))))))
    (seqS (setS 4 (flsM (lcM (rng1 (consA (cM (.int 3)) nilA)) [5] (one 5) yesT (callM f_law_map [] (consA (varM 1) (consA (opM ixF (varM 2) (varM 5)) (consA (opM ixF (varM 2) (opM addF (varM 5) (cM (.int 1)))) nilA)))))))
    (seqS (ifS (orT (notT (truM (callM f_law_composes_right [] (consA (varM 2) (consA (varM 4) nilA))))) (notT (truM (callM f_law_turns_right [] (consA (varM 1) (consA (opM ixF (varM 2) (cM (.int 3))) nilA)))))) (retS (cM (.bl false))) nilS)
    (seqS (setS 5 (callM f_law_take [] (consA (varM 1) (consA (cM (.int 3)) nilA))))
    (seqS (setS 6 (opM ixF (varM 2) (varM 5)))
    (seqS (setS 7 (opM ixF (varM 2) (opM addF (varM 5) (cM (.int 1)))))
    (seqS (setS 8 (callM f_law_moved [] (consA (varM 1) (consA (varM 6) (consA (varM 7) (consA (opM ixF (varM 4) (varM 5)) (consA (cM (.bl true)) nilA)))))))
    (seqS (setS 9 (callM f_law_moved [] (consA (varM 1) (consA (varM 6) (consA (varM 7) (consA (opM ixF (varM 4) (varM 5)) (consA (cM (.bl false)) nilA)))))))
    (seqS (setS 10 (callM f_law_moved [] (consA (varM 1) (consA (varM 6) (consA (varM 7) (consA (varM 8) (consA (cM (.bl false)) nilA)))))))
    (retS (callM f_law_pairs_right [] (consA (varM 7) (consA (flsM (lstM (consA (opM ixF (varM 4) (varM 5)) (consA (varM 8) (consA (varM 9) (consA (varM 10) (consA (callM f_law_map [] (consA (varM 1) (consA (varM 6) (consA (varM 7) nilA)))) nilA))))))) nilA))))))))))))))
def f_law : MF := defM 1 11 m_law
theorem x_law {a0 : MV} {h : MH} : defM 1 11 m_law [a0] h = defK (m_law [some a0, none, none, none, none, none, none, none, none, none, none] h) := defM_K rfl
end
end Mi.k10
set_option maxHeartbeats 2000000
namespace Mi.k10
open PySem L2
mutual
def sm : Nat → PV → Bool
  | 0, _ => false
  | k + 1, .tup xs => decide (xs.length ≤ 400000) && sms k xs
  | _ + 1, _ => true
def sms : Nat → List PV → Bool
  | _, [] => true
  | k, x :: xs => sm k x && sms k xs
end
theorem sms_mem {k : Nat} : ∀ {xs : List PV}, sms k xs = true → ∀ x ∈ xs, sm k x = true
  | y :: ys, e, x, hx => by
    have e : (sm k y && sms k ys) = true := e
    obtain ⟨e1, e2⟩ := Bool.and_eq_true_iff.mp e
    rcases List.mem_cons.mp hx with q | q
    · rw [q]; exact e1
    · exact sms_mem e2 x q
theorem same_refl : ∀ (k : Nat) (v : PV) (h : MH), sm k v = true → fr_law_same k [plv v, plv v] h = ok (.bl true) h
  | 0, _, _, e => by unfold sm at e; cases e
  | k + 1, v, h, e => by
    refine (x_law_same k).trans ?_
    cases v with
    | non => simp [m_law_same, plv, defK, tyOf, Ty.le]
    | bl b => simp [m_law_same, plv, defK, tyOf, Ty.le, eqB]
    | int i => simp [m_law_same, plv, defK, tyOf, Ty.le, eqB]
    | str t => simp [m_law_same, plv, defK, tyOf, Ty.le, eqB]
    | tup xs =>
      have e : (decide (xs.length ≤ 400000) && sms k xs) = true := e
      obtain ⟨e1, e2⟩ := Bool.and_eq_true_iff.mp e
      have e1 := of_decide_eq_true e1
      have hv : plv (.tup xs) = .tup (xs.map plv) := pv_tup.symm
      rw [hv]
      obtain ⟨v, hv⟩ : ∃ v, v = MV.tup (xs.map plv) := ⟨_, rfl⟩
      have lp : forM (rng1 (consA (bltM lenF (consA (varM 1) nilA)) nilA)) (one 2) (b1_law_same (fr_law_same k)) [some v, some v, none] h = some (.nx [some v, some v, none] h) := by
        have ln := y_len (a := varM 1) (s := [some v, some v, none]) (h := h) (h1 := h) (f := plv) (xs := xs) (r_var rfl) (by rw [hv]; rfl)
        refine (t_for (q_rng ln (by omega))).trans ?_
        have := for_all (bd := turnM (one 2) (b1_law_same (fr_law_same k))) (f := nV) (s := [some v, some v, none]) (h := h) (fun _ : Nat => true) (.bl false) (xs := List.range xs.length) fun j hj => by
          have hj := List.mem_range.mp hj
          have gj : (xs.map plv)[j]? = some (plv xs[j]) := by rw [List.getElem?_map, List.getElem?_eq_getElem hj]; rfl
          have q := same_refl k xs[j] h (sms_mem e2 _ (List.getElem_mem _))
          have i0 : opM ixF (varM 0) (varM 2) [some v, some v, some (nV j)] h = ok (plv xs[j]) h := r_ixt (xs := xs.map plv) (r_var (by rw [hv]; rfl)) (r_var rfl) gj
          have i1 : opM ixF (varM 1) (varM 2) [some v, some v, some (nV j)] h = ok (plv xs[j]) h := r_ixt (xs := xs.map plv) (r_var (by rw [hv]; rfl)) (r_var rfl) gj
          rw [if_pos rfl]
          show wipT [2] _ [some v, some v, some (nV j)] h = _
          exact (wip_nx (t_if_nil (r_not (p := true) (r_tru (callM_ok (consA_ok i0 (consA_ok i1 r_nil)) q))))).trans rfl
        rw [this]
        simp
      have ln : ∀ i, i < 2 → bltM lenF (consA (varM i) nilA) [some v, some v, none] h = ok (nV xs.length) h := fun i hi => y_len (f := plv) (xs := xs) (y := v) (r_var (by match i, hi with | 0, _ => rfl | 1, _ => rfl)) (by rw [hv]; rfl)
      have t1 : truM (isiM [.tuple] (varM 1)) [some v, some v, none] h = ok true h := by rw [hv]; rfl
      have t0 : truM (isiM [.tuple] (varM 0)) [some v, some v, none] h = ok true h := by rw [hv]; rfl
      have tn : tstM (opM neF (bltM lenF (consA (varM 0) nilA)) (bltM lenF (consA (varM 1) nilA))) [some v, some v, none] h = ok (!decide (xs.length = xs.length)) h := r_tst (r_ne (ln 0 (by omega)) (ln 1 (by omega)))
      rw [← hv]
      unfold m_law_same
      have body : (seqS (preW [2] (forM (rng1 (consA (bltM lenF (consA (varM 1) nilA)) nilA)) (one 2) (b1_law_same (fr_law_same k)))) (retS (cM (.bl true)))) [some v, some v, none] h = some (.ret (.bl true) h) := (seq_nx (show preW [2] (forM (rng1 (consA (bltM lenF (consA (varM 1) nilA)) nilA)) (one 2) (b1_law_same (fr_law_same k))) [some v, some v, none] h = some (OutS.nx [some v, some v, none] h) from lp)).trans rfl
      have fi : ifS (orT (notT (truM (isiM [.tuple] (varM 0)))) (tstM (opM neF (bltM lenF (consA (varM 0) nilA)) (bltM lenF (consA (varM 1) nilA))))) (retS (cM (.bl false))) nilS [some v, some v, none] h = some (.nx [some v, some v, none] h) := t_if_nil (r_or_f (r_not t0) (tn.trans (by rw [decide_eq_true rfl]; rfl)))
      rw [seq_ret ((ifS_t t1).trans ((seq_nx fi).trans body))]
      rfl
open Classical in
noncomputable def same_t (a b : PV) : Option Bool := if a = b ∧ sm 8 a = true then some true else none
theorem same_tt {h : MH} {a b : PV} {r : Bool} (e : same_t a b = some r) : f_law_same [plv a, plv b] h = ok (.bl r) h := by
  unfold same_t at e
  split at e
  · rename_i c
    cases e
    rw [← c.1]
    exact same_refl 8 a h c.2
  · cases e
theorem same_ok {a b : PV} (h : a = b) (h2 : sm 8 a = true) : same_t a b = some true := if_pos ⟨h, h2⟩
end Mi.k10
set_option simprocs false
set_option maxHeartbeats 2000000
namespace Mi.k10
open PySem L2
noncomputable section
abbrev c_RX7cel_at_res_lef_odd_see_turFINNNBNN (q : ((List Int) × Nat × Nat × Nat × Bool × Nat × Nat)) : MO := .dK [(.inr "cells", (MV.fls (List.map MV.int q.1))), (.inr "at", (nV q.2.1)), (.inr "rest", (nV q.2.2.1)), (.inr "left", (nV q.2.2.2.1)), (.inr "odd", (MV.bl q.2.2.2.2.1)), (.inr "seed", (nV q.2.2.2.2.2.1)), (.inr "turn", (nV q.2.2.2.2.2.2))]
abbrev e_FN (q : (List Nat)) : MV := (MV.fls (List.map nV q))
abbrev e_FP2NN (q : (List (Nat × Nat))) : MV := (MV.fls (List.map prV q))
abbrev c_RX3ord_und_namP2NVP2NNFFNFN (q : ((Nat × (List (Nat × Nat))) × (List (List Nat)) × (List Nat))) : MO := .dK [(.inr "order", (MV.tup [(nV q.1.1), (MV.tup (List.map prV q.1.2))])), (.inr "under", (MV.fls (List.map e_FN q.2.1))), (.inr "names", (MV.fls (List.map nV q.2.2)))]
abbrev e_VN (q : (List Nat)) : MV := (MV.tup (List.map nV q))
def tb1_law_pool (q1 : Nat) (cell2 : Int) : Option Nat :=
  lett ((((((q1 * 1000003) : Nat) : Int) + cell2) % (2305843009213693951 : Nat)).toNat : Nat) fun seed5 =>
  some seed5
def t_law_pool (script : (List Int)) : Option ((List Int) × Nat × Nat × Nat × Bool × Nat × Nat) :=
  (forO tb1_law_pool script 7).bind fun q6 =>
  lett ((script, 0, 0, 0, false, q6, 0) : ((List Int) × Nat × Nat × Nat × Bool × Nat × Nat)) fun c10 =>
  some c10
theorem tt_law_pool {h : MH} {script : (List Int)} {r : ((List Int) × Nat × Nat × Nat × Bool × Nat × Nat)}  (e : t_law_pool script = some r) : ∃ p9 h9, f_law_pool [(MV.frz (List.map MV.int script))] h = ok (.ref p9) h9 ∧ Fr h [] h9 ∧ h.length ≤ p9 ∧ h9[p9]? = some (c_RX7cel_at_res_lef_odd_see_turFINNNBNN r) := by
  unfold t_law_pool at e
  obtain ⟨o, eo, p9, h9, e9, fr9, lo9, w9⟩ : ∃ o, m_law_pool [some ((MV.frz (List.map MV.int script))), none, none] h = some o ∧ ∃ p9 h9, defK (some o) = ok (.ref p9) h9 ∧ Fr h [] h9 ∧ h.length ≤ p9 ∧ h9[p9]? = some (c_RX7cel_at_res_lef_odd_see_turFINNNBNN r) := by
    unfold m_law_pool
    have fr0 : Fr h [] h := Fr.refl
    refine W_seq (setS_ok rfl) ?_
    obtain ⟨q6, b_q6, e⟩ := obind e
    refine W_forO (e := MV.int) (xs := script) (f := tb1_law_pool) (fun (q1 : Nat) s3 h4 => s3 = [some (MV.frz (List.map MV.int script)), some (nV q1), none] ∧ h = h4) (q_frz (r_var rfl)) ⟨rfl, rfl⟩ b_q6 (fun q1 cell2 s h4 b ra e => ?_) ?_
    · obtain ⟨rfl, rfl⟩ := ra
      unfold tb1_law_pool at e
      refine W_turn rfl ?_
      unfold b1_law_pool
      refine W_wip' ?_
      refine W_lst ?_
      obtain ⟨seed5, h_seed5, e⟩ := lett_e e
      refine W_seq (setS_ok (ok_lt (f := nV) h_seed5 (i_modN (i := ((((q1 * 1000003) : Nat) : Int) + cell2)) (j := 2305843009213693951) (i_int (i_add (i := (((q1 * 1000003) : Nat) : Int)) (j := cell2) (n_mul (i := q1) (j := 1000003) (r_var rfl) rfl (.inr ⟨by omega, by omega⟩)) (r_var rfl))) rfl (by omega)))) ?_
      refine W_nil ?_
      obtain rfl := some_e e
      exact ⟨_, rfl, _, _, .inl rfl, ⟨rfl, rfl⟩⟩
    rintro _ _ ⟨rfl, rfl⟩
    obtain ⟨p7, q_p7⟩ : ∃ x : Nat, x = h.length := ⟨_, rfl⟩
    obtain ⟨h8, q_h8⟩ : ∃ x : MH, x = h ++ [(MO.dK (List.map (fun (q : Nat × Nat) => (kyN q.1, (nV q.2))) []))] := ⟨_, rfl⟩
    have w_h8_0 : h8[p7]? = some (MO.dK (List.map (fun (q : Nat × Nat) => (kyN q.1, (nV q.2))) [])) := by rw [q_h8]; exact g_nw q_p7
    have lo_p7 : h.length ≤ p7 := by rw [q_p7]; exact fr0.1
    have fr_h8 : Fr h [] h8 := by rw [q_h8]; exact fr0.app
    obtain ⟨c10, h_c10, e⟩ := lett_e e
    obtain ⟨h9, q_h9⟩ : ∃ x : MH, x = h8.set p7 (c_RX7cel_at_res_lef_odd_see_turFINNNBNN c10) := ⟨_, rfl⟩
    have w_h9_0 : h9[p7]? = some (c_RX7cel_at_res_lef_odd_see_turFINNNBNN c10) := by rw [q_h9]; exact g_eq w_h8_0
    have fr_h9 : Fr h [] h9 := by rw [q_h9]; exact fr_h8.out lo_p7
    refine W_ret (y_disp q_p7 q_h8 (pr_cons (r_fls (z_lst (r_var rfl) rfl)) (pr_cons rfl (pr_cons rfl (pr_cons rfl (pr_cons rfl (pr_cons (r_var rfl) (pr_cons rfl pr_nil))))))) w_h8_0 (by show 7 ≤ 15; omega) (Eq.trans rfl (Eq.symm (Eq.trans q_h9 (congrArg (fun z => List.set h8 p7 (c_RX7cel_at_res_lef_odd_see_turFINNNBNN z)) h_c10))))) ?_
    obtain rfl := some_e e
    exact ⟨_, _, rfl, fr_h9, lo_p7, w_h9_0⟩
  exact ⟨p9, h9, cut_ref (x_law_pool.trans (by rw [eo]; exact e9)) lo9, fr9, lo9, w9⟩
def t_law_mixed (number : Nat) (turn : Nat) (many : Nat) : Option Nat :=
  gd (0 < 2305843009213693951) <|
  lett (((((number * 48271) + (turn * 1000000000039)) + 12345678910111213) % 2305843009213693951) : Nat) fun once2 =>
  gd (mulOk (once2 : Nat) (once2 : Nat)) <|
  gd (0 < 2305843009213693951) <|
  lett (((((once2 * once2) + turn) * 7046029254386353) % 2305843009213693951) : Nat) fun twice5 =>
  gd (0 < many) <|
  some ((twice5 / 8) % many)
theorem tt_law_mixed {h : MH} {number : Nat} {turn : Nat} {many : Nat} {r : Nat}  (e : t_law_mixed number turn many = some r) : f_law_mixed [(nV number), (nV turn), (nV many)] h = ok (nV r) h := by
  unfold t_law_mixed at e
  refine x_law_mixed.trans (fn_go ?_)
  unfold m_law_mixed
  refine W_seq (setS_ok rfl) ?_
  obtain ⟨g_1, e⟩ := gd_e e
  obtain ⟨once2, h_once2, e⟩ := lett_e e
  refine W_seq (setS_ok (ok_lt (f := nV) h_once2 (r_mod (i := (((number * 48271) + (turn * 1000000000039)) + 12345678910111213)) (j := 2305843009213693951) (i_int (r_add (i := ((number * 48271) + (turn * 1000000000039))) (j := 12345678910111213) (r_add (i := (number * 48271)) (j := (turn * 1000000000039)) (n_mul (i := number) (j := 48271) (r_var rfl) rfl (.inr ⟨by omega, by omega⟩)) (n_mul (i := turn) (j := 1000000000039) (r_var rfl) rfl (.inr ⟨by omega, by omega⟩))) rfl)) (r_var rfl) g_1))) ?_
  obtain ⟨g_3, e⟩ := gd_e e
  obtain ⟨g_4, e⟩ := gd_e e
  obtain ⟨twice5, h_twice5, e⟩ := lett_e e
  refine W_seq (setS_ok (ok_lt (f := nV) h_twice5 (r_mod (i := (((once2 * once2) + turn) * 7046029254386353)) (j := 2305843009213693951) (n_mul (i := ((once2 * once2) + turn)) (j := 7046029254386353) (i_int (r_add (i := (once2 * once2)) (j := turn) (n_mul (i := once2) (j := once2) (r_var rfl) (r_var rfl) g_3) (r_var rfl))) rfl (.inr ⟨by omega, by omega⟩)) (r_var rfl) g_4))) ?_
  obtain ⟨g_6, e⟩ := gd_e e
  refine W_ret (r_mod (i := (twice5 / 8)) (j := many) (n_div (i := twice5) (j := 8) (r_var rfl) rfl (by omega)) (r_var rfl) g_6) ?_
  obtain rfl := some_e e
  exact rfl
def t_law_take (pool : ((List Int) × Nat × Nat × Nat × Bool × Nat × Nat)) (many : Nat) : Option (Nat × ((List Int) × Nat × Nat × Nat × Bool × Nat × Nat)) :=
  lett ((pool.1, pool.2.1, pool.2.2.1, pool.2.2.2.1, pool.2.2.2.2.1, pool.2.2.2.2.2.1, (pool.2.2.2.2.2.2 + 1)) : ((List Int) × Nat × Nat × Nat × Bool × Nat × Nat)) fun c2 =>
  (if ((decide (c2.2.2.2.1 = 0)) && (decide (c2.2.1 < c2.1.length))) = true then ((c2.1[c2.2.1]?).bind fun v8 =>
  lett ((c2.1, (c2.2.1 + 1), c2.2.2.1, c2.2.2.2.1, c2.2.2.2.2.1, c2.2.2.2.2.2.1, c2.2.2.2.2.2.2) : ((List Int) × Nat × Nat × Nat × Bool × Nat × Nat)) fun c10 =>
  lett ((c10.1, c10.2.1, c10.2.2.1, c10.2.2.2.1, (decide ((v8 % (2 : Nat)).toNat = 1)), c10.2.2.2.2.2.1, c10.2.2.2.2.2.2) : ((List Int) × Nat × Nat × Nat × Bool × Nat × Nat)) fun c12 =>
  lett ((c12.1, c12.2.1, (v8.natAbs / 2), c12.2.2.2.1, c12.2.2.2.2.1, c12.2.2.2.2.2.1, c12.2.2.2.2.2.2) : ((List Int) × Nat × Nat × Nat × Bool × Nat × Nat)) fun c14 =>
  ([60, 6][(c14.2.2.2.2.1).toNat]?).bind fun v15 =>
  lett ((c14.1, c14.2.1, c14.2.2.1, v15, c14.2.2.2.2.1, c14.2.2.2.2.2.1, c14.2.2.2.2.2.2) : ((List Int) × Nat × Nat × Nat × Bool × Nat × Nat)) fun c17 =>
  some c17) else (some c2) : Option ((List Int) × Nat × Nat × Nat × Bool × Nat × Nat)).bind fun j3 =>
  if (decide (j3.2.2.2.1 = 0)) = true then ((t_law_mixed j3.2.2.2.2.2.1 j3.2.2.2.2.2.2 many).bind fun r18 =>
  some (r18, j3)) else (gd (1 ≤ j3.2.2.2.1) <|
  lett ((j3.1, j3.2.1, j3.2.2.1, (j3.2.2.2.1 - 1), j3.2.2.2.2.1, j3.2.2.2.2.2.1, j3.2.2.2.2.2.2) : ((List Int) × Nat × Nat × Nat × Bool × Nat × Nat)) fun c22 =>
  if c22.2.2.2.2.1 = true then ((t_law_mixed c22.2.2.1 c22.2.2.2.2.2.2 many).bind fun r23 =>
  some (r23, c22)) else (gd (0 < many) <|
  lett ((c22.2.2.1 % many) : Nat) fun drawn26 =>
  gd (0 < many ∧ many < 1000000000) <|
  lett ((c22.1, c22.2.1, (c22.2.2.1 / many), c22.2.2.2.1, c22.2.2.2.2.1, c22.2.2.2.2.2.1, c22.2.2.2.2.2.2) : ((List Int) × Nat × Nat × Nat × Bool × Nat × Nat)) fun c29 =>
  (if (decide (c29.2.2.1 = 0)) = true then (lett ((c29.1, c29.2.1, c29.2.2.1, 0, c29.2.2.2.2.1, c29.2.2.2.2.2.1, c29.2.2.2.2.2.2) : ((List Int) × Nat × Nat × Nat × Bool × Nat × Nat)) fun c35 =>
  some c35) else (some c29) : Option ((List Int) × Nat × Nat × Nat × Bool × Nat × Nat)).bind fun j30 =>
  some (drawn26, j30)))
theorem tt_law_take {h : MH} {pool : ((List Int) × Nat × Nat × Nat × Bool × Nat × Nat)} {l0 : Nat} {many : Nat} {r : (Nat × ((List Int) × Nat × Nat × Nat × Bool × Nat × Nat))} (w0 : h[l0]? = some (c_RX7cel_at_res_lef_odd_see_turFINNNBNN pool)) (e : t_law_take pool many = some r) : f_law_take [.ref l0, (nV many)] h = ok (nV r.1) (h.set l0 (c_RX7cel_at_res_lef_odd_see_turFINNNBNN r.2)) := by
  unfold t_law_take at e
  obtain ⟨o, eo, h9, e9, fr9, ln9, w9_0⟩ : ∃ o, m_law_take [some (.ref l0), some ((nV many)), none, none] h = some o ∧ ∃ h9, defK (some o) = ok (nV r.1) h9 ∧ Fr h [l0] h9 ∧ h9.length = h.length ∧ h9[l0]? = some (c_RX7cel_at_res_lef_odd_see_turFINNNBNN r.2) := by
    unfold m_law_take
    have fr0 : Fr h [l0] h := Fr.refl
    have ln0 : h.length = h.length := rfl
    obtain ⟨c2, h_c2, e⟩ := lett_e e
    obtain ⟨h1, q_h1⟩ : ∃ x : MH, x = h.set l0 (c_RX7cel_at_res_lef_odd_see_turFINNNBNN c2) := ⟨_, rfl⟩
    have w_h1_0 : h1[l0]? = some (c_RX7cel_at_res_lef_odd_see_turFINNNBNN c2) := by rw [q_h1]; exact g_eq w0
    have fr_h1 : Fr h [l0] h1 := by rw [q_h1]; exact fr0.inn (by simp)
    have ln_h1 : h1.length = h.length := by rw [q_h1, List.length_set, ln0]
    refine W_seq (y_xput (r_add (i := pool.2.2.2.2.2.2) (j := 1) (y_xget (r_var rfl) rfl w0 rfl rfl) rfl) (r_var rfl) rfl w0 rfl (by show 7 < 1000000; omega) (Eq.trans rfl (Eq.symm (Eq.trans q_h1 (congrArg (fun z => List.set h l0 (c_RX7cel_at_res_lef_odd_see_turFINNNBNN z)) h_c2))))) ?_
    obtain ⟨j3, b_j3, e⟩ := obind e
    refine W_join (Q := fun s6 h7 => ∃ z4 : Option MV, s6 = [some (.ref l0), some (nV many), z4, none] ∧ Fr h [l0] h7 ∧ h7.length = h.length ∧ h7[l0]? = some (c_RX7cel_at_res_lef_odd_see_turFINNNBNN j3)) ?_ ?_
    · rcases ite_e b_j3 with ⟨hc, e⟩ | ⟨hc, e⟩
      · refine W_t (r_and (p := (decide (c2.2.2.2.1 = 0))) (q := (decide (c2.2.1 < c2.1.length))) (r_tst (r_eq (i := c2.2.2.2.1) (j := 0) (y_xget (r_var rfl) rfl w_h1_0 rfl rfl) rfl)) (fun _ => (r_tst (r_lt (i := c2.2.1) (j := c2.1.length) (y_xget (r_var rfl) rfl w_h1_0 rfl rfl) (y_len (f := MV.int) (xs := c2.1) (y_xget (r_var rfl) rfl w_h1_0 rfl rfl) rfl))))) hc ?_
        obtain ⟨v8, b_v8, e⟩ := obind e
        refine W_seq (setS_ok (i_int (y_ix (f := MV.int) (xs := c2.1) (i := c2.2.1) (y_xget (r_var rfl) rfl w_h1_0 rfl rfl) (y_xget (r_var rfl) rfl w_h1_0 rfl rfl) rfl b_v8))) ?_
        obtain ⟨c10, h_c10, e⟩ := lett_e e
        obtain ⟨h9, q_h9⟩ : ∃ x : MH, x = h1.set l0 (c_RX7cel_at_res_lef_odd_see_turFINNNBNN c10) := ⟨_, rfl⟩
        have w_h9_0 : h9[l0]? = some (c_RX7cel_at_res_lef_odd_see_turFINNNBNN c10) := by rw [q_h9]; exact g_eq w_h1_0
        have fr_h9 : Fr h [l0] h9 := by rw [q_h9]; exact fr_h1.inn (by simp)
        have ln_h9 : h9.length = h.length := by rw [q_h9, List.length_set, ln_h1]
        refine W_seq (y_xput (r_add (i := c2.2.1) (j := 1) (y_xget (r_var rfl) rfl w_h1_0 rfl rfl) rfl) (r_var rfl) rfl w_h1_0 rfl (by show 7 < 1000000; omega) (Eq.trans rfl (Eq.symm (Eq.trans q_h9 (congrArg (fun z => List.set h1 l0 (c_RX7cel_at_res_lef_odd_see_turFINNNBNN z)) h_c10))))) ?_
        obtain ⟨c12, h_c12, e⟩ := lett_e e
        obtain ⟨h11, q_h11⟩ : ∃ x : MH, x = h9.set l0 (c_RX7cel_at_res_lef_odd_see_turFINNNBNN c12) := ⟨_, rfl⟩
        have w_h11_0 : h11[l0]? = some (c_RX7cel_at_res_lef_odd_see_turFINNNBNN c12) := by rw [q_h11]; exact g_eq w_h9_0
        have fr_h11 : Fr h [l0] h11 := by rw [q_h11]; exact fr_h9.inn (by simp)
        have ln_h11 : h11.length = h.length := by rw [q_h11, List.length_set, ln_h9]
        refine W_seq (y_xput (r_eq (i := (v8 % (2 : Nat)).toNat) (j := 1) (i_modN (i := v8) (j := 2) (r_var rfl) rfl (by omega)) rfl) (r_var rfl) rfl w_h9_0 rfl (by show 7 < 1000000; omega) (Eq.trans rfl (Eq.symm (Eq.trans q_h11 (congrArg (fun z => List.set h9 l0 (c_RX7cel_at_res_lef_odd_see_turFINNNBNN z)) h_c12))))) ?_
        obtain ⟨c14, h_c14, e⟩ := lett_e e
        obtain ⟨h13, q_h13⟩ : ∃ x : MH, x = h11.set l0 (c_RX7cel_at_res_lef_odd_see_turFINNNBNN c14) := ⟨_, rfl⟩
        have w_h13_0 : h13[l0]? = some (c_RX7cel_at_res_lef_odd_see_turFINNNBNN c14) := by rw [q_h13]; exact g_eq w_h11_0
        have fr_h13 : Fr h [l0] h13 := by rw [q_h13]; exact fr_h11.inn (by simp)
        have ln_h13 : h13.length = h.length := by rw [q_h13, List.length_set, ln_h11]
        refine W_seq (y_xput (n_div (i := v8.natAbs) (j := 2) (i_abs (i := v8) (r_var rfl)) rfl (by omega)) (r_var rfl) rfl w_h11_0 rfl (by show 7 < 1000000; omega) (Eq.trans rfl (Eq.symm (Eq.trans q_h13 (congrArg (fun z => List.set h11 l0 (c_RX7cel_at_res_lef_odd_see_turFINNNBNN z)) h_c14))))) ?_
        refine W_lst ?_
        obtain ⟨v15, b_v15, e⟩ := obind e
        obtain ⟨c17, h_c17, e⟩ := lett_e e
        obtain ⟨h16, q_h16⟩ : ∃ x : MH, x = h13.set l0 (c_RX7cel_at_res_lef_odd_see_turFINNNBNN c17) := ⟨_, rfl⟩
        have w_h16_0 : h16[l0]? = some (c_RX7cel_at_res_lef_odd_see_turFINNNBNN c17) := by rw [q_h16]; exact g_eq w_h13_0
        have fr_h16 : Fr h [l0] h16 := by rw [q_h16]; exact fr_h13.inn (by simp)
        have ln_h16 : h16.length = h.length := by rw [q_h16, List.length_set, ln_h13]
        refine W_seq (y_xput (y_ix (f := nV) (xs := [60, 6]) (i := (c14.2.2.2.2.1).toNat) (r_fls (r_lst (consA_ok rfl (consA_ok rfl r_nil)) (by show 2 ≤ 400000; omega))) (y_intB (y_xget (r_var rfl) rfl w_h13_0 rfl rfl)) rfl b_v15) (r_var rfl) rfl w_h13_0 rfl (by show 7 < 1000000; omega) (Eq.trans rfl (Eq.symm (Eq.trans q_h16 (congrArg (fun z => List.set h13 l0 (c_RX7cel_at_res_lef_odd_see_turFINNNBNN z)) h_c17))))) ?_
        refine W_nil ?_
        obtain rfl := some_e e
        exact ⟨_, _, rfl, _, rfl, fr_h16, ln_h16, w_h16_0⟩
      · refine W_f (r_and (p := (decide (c2.2.2.2.1 = 0))) (q := (decide (c2.2.1 < c2.1.length))) (r_tst (r_eq (i := c2.2.2.2.1) (j := 0) (y_xget (r_var rfl) rfl w_h1_0 rfl rfl) rfl)) (fun _ => (r_tst (r_lt (i := c2.2.1) (j := c2.1.length) (y_xget (r_var rfl) rfl w_h1_0 rfl rfl) (y_len (f := MV.int) (xs := c2.1) (y_xget (r_var rfl) rfl w_h1_0 rfl rfl) rfl))))) hc ?_
        refine W_nil ?_
        obtain rfl := some_e e
        exact ⟨_, _, rfl, _, rfl, fr_h1, ln_h1, w_h1_0⟩
    rintro _ h5 ⟨z4, rfl, fr_h5, ln_h5, w_h5_0⟩
    rcases ite_e e with ⟨hc, e⟩ | ⟨hc, e⟩
    · refine W_st (r_tst (r_eq (i := j3.2.2.2.1) (j := 0) (y_xget (r_var rfl) rfl w_h5_0 rfl rfl) rfl)) hc ?_
      obtain ⟨r18, b_r18, e⟩ := obind e
      have c19 := tt_law_mixed (h := h5)  b_r18
      refine W_sret (callM_ok (consA_ok (y_xget (r_var rfl) rfl w_h5_0 rfl rfl) (consA_ok (y_xget (r_var rfl) rfl w_h5_0 rfl rfl) (consA_ok (r_var rfl) r_nil))) c19) ?_
      obtain rfl := some_e e
      exact ⟨_, rfl, fr_h5, ln_h5, w_h5_0⟩
    · refine W_sf (r_tst (r_eq (i := j3.2.2.2.1) (j := 0) (y_xget (r_var rfl) rfl w_h5_0 rfl rfl) rfl)) hc ?_
      refine W_nils ?_
      obtain ⟨g_20, e⟩ := gd_e e
      obtain ⟨c22, h_c22, e⟩ := lett_e e
      obtain ⟨h21, q_h21⟩ : ∃ x : MH, x = h5.set l0 (c_RX7cel_at_res_lef_odd_see_turFINNNBNN c22) := ⟨_, rfl⟩
      have w_h21_0 : h21[l0]? = some (c_RX7cel_at_res_lef_odd_see_turFINNNBNN c22) := by rw [q_h21]; exact g_eq w_h5_0
      have fr_h21 : Fr h [l0] h21 := by rw [q_h21]; exact fr_h5.inn (by simp)
      have ln_h21 : h21.length = h.length := by rw [q_h21, List.length_set, ln_h5]
      refine W_seq (y_xput (r_sub (i := j3.2.2.2.1) (j := 1) (y_xget (r_var rfl) rfl w_h5_0 rfl rfl) rfl g_20) (r_var rfl) rfl w_h5_0 rfl (by show 7 < 1000000; omega) (Eq.trans rfl (Eq.symm (Eq.trans q_h21 (congrArg (fun z => List.set h5 l0 (c_RX7cel_at_res_lef_odd_see_turFINNNBNN z)) h_c22))))) ?_
      rcases ite_e e with ⟨hc, e⟩ | ⟨hc, e⟩
      · refine W_st (r_tru (y_xget (r_var rfl) rfl w_h21_0 rfl rfl)) hc ?_
        obtain ⟨r23, b_r23, e⟩ := obind e
        have c24 := tt_law_mixed (h := h21)  b_r23
        refine W_sret (callM_ok (consA_ok (y_xget (r_var rfl) rfl w_h21_0 rfl rfl) (consA_ok (y_xget (r_var rfl) rfl w_h21_0 rfl rfl) (consA_ok (r_var rfl) r_nil))) c24) ?_
        obtain rfl := some_e e
        exact ⟨_, rfl, fr_h21, ln_h21, w_h21_0⟩
      · refine W_sf (r_tru (y_xget (r_var rfl) rfl w_h21_0 rfl rfl)) hc ?_
        refine W_nils ?_
        obtain ⟨g_25, e⟩ := gd_e e
        obtain ⟨drawn26, h_drawn26, e⟩ := lett_e e
        refine W_seq (setS_ok (ok_lt (f := nV) h_drawn26 (r_mod (i := c22.2.2.1) (j := many) (i_int (y_xget (r_var rfl) rfl w_h21_0 rfl rfl)) (r_var rfl) g_25))) ?_
        obtain ⟨g_27, e⟩ := gd_e e
        obtain ⟨c29, h_c29, e⟩ := lett_e e
        obtain ⟨h28, q_h28⟩ : ∃ x : MH, x = h21.set l0 (c_RX7cel_at_res_lef_odd_see_turFINNNBNN c29) := ⟨_, rfl⟩
        have w_h28_0 : h28[l0]? = some (c_RX7cel_at_res_lef_odd_see_turFINNNBNN c29) := by rw [q_h28]; exact g_eq w_h21_0
        have fr_h28 : Fr h [l0] h28 := by rw [q_h28]; exact fr_h21.inn (by simp)
        have ln_h28 : h28.length = h.length := by rw [q_h28, List.length_set, ln_h21]
        refine W_seq (y_xput (n_div (i := c22.2.2.1) (j := many) (y_xget (r_var rfl) rfl w_h21_0 rfl rfl) (r_var rfl) g_27) (r_var rfl) rfl w_h21_0 rfl (by show 7 < 1000000; omega) (Eq.trans rfl (Eq.symm (Eq.trans q_h28 (congrArg (fun z => List.set h21 l0 (c_RX7cel_at_res_lef_odd_see_turFINNNBNN z)) h_c29))))) ?_
        obtain ⟨j30, b_j30, e⟩ := obind e
        refine W_join (Q := fun s32 h33 => s32 = [some (.ref l0), some (nV many), z4, some (nV drawn26)] ∧ Fr h [l0] h33 ∧ h33.length = h.length ∧ h33[l0]? = some (c_RX7cel_at_res_lef_odd_see_turFINNNBNN j30)) ?_ ?_
        · rcases ite_e b_j30 with ⟨hc, e⟩ | ⟨hc, e⟩
          · refine W_t (r_tst (r_eq (i := c29.2.2.1) (j := 0) (y_xget (r_var rfl) rfl w_h28_0 rfl rfl) rfl)) hc ?_
            refine W_lst ?_
            obtain ⟨c35, h_c35, e⟩ := lett_e e
            obtain ⟨h34, q_h34⟩ : ∃ x : MH, x = h28.set l0 (c_RX7cel_at_res_lef_odd_see_turFINNNBNN c35) := ⟨_, rfl⟩
            have w_h34_0 : h34[l0]? = some (c_RX7cel_at_res_lef_odd_see_turFINNNBNN c35) := by rw [q_h34]; exact g_eq w_h28_0
            have fr_h34 : Fr h [l0] h34 := by rw [q_h34]; exact fr_h28.inn (by simp)
            have ln_h34 : h34.length = h.length := by rw [q_h34, List.length_set, ln_h28]
            refine W_seq (y_xput rfl (r_var rfl) rfl w_h28_0 rfl (by show 7 < 1000000; omega) (Eq.trans rfl (Eq.symm (Eq.trans q_h34 (congrArg (fun z => List.set h28 l0 (c_RX7cel_at_res_lef_odd_see_turFINNNBNN z)) h_c35))))) ?_
            refine W_nil ?_
            obtain rfl := some_e e
            exact ⟨_, _, rfl, rfl, fr_h34, ln_h34, w_h34_0⟩
          · refine W_f (r_tst (r_eq (i := c29.2.2.1) (j := 0) (y_xget (r_var rfl) rfl w_h28_0 rfl rfl) rfl)) hc ?_
            refine W_nil ?_
            obtain rfl := some_e e
            exact ⟨_, _, rfl, rfl, fr_h28, ln_h28, w_h28_0⟩
        rintro _ h31 ⟨rfl, fr_h31, ln_h31, w_h31_0⟩
        refine W_ret (r_var rfl) ?_
        obtain rfl := some_e e
        exact ⟨_, rfl, fr_h31, ln_h31, w_h31_0⟩
  have hh : h9 = (h.set l0 (c_RX7cel_at_res_lef_odd_see_turFINNNBNN r.2)) := fr9.e1 ln9 w9_0
  rw [← hh]
  exact x_law_take.trans (by rw [eo]; exact e9)
def t_law_names (pool : ((List Int) × Nat × Nat × Nat × Bool × Nat × Nat)) (n : Nat) : Option ((List Nat) × ((List Int) × Nat × Nat × Nat × Bool × Nat × Nat)) :=
  (t_law_take pool 4).bind fun r1 =>
  if (decide (r1.1 = 0)) = true then (gd (n ≤ 400000) <|
  some ((List.range n), r1.2)) else (gd (n ≤ 400000) <|
  lett ((List.range n) : (List Nat)) fun c8 =>
  gd (n ≤ 400000) <|
  gd ((List.range n).length ≤ 400000) <|
  (lcW (fun (q19 : (((List Int) × Nat × Nat × Nat × Bool × Nat × Nat) × (List Nat))) (k10 : Nat) => ((t_law_take q19.1 q19.2.length).bind fun r21 => gd (q19.2.length ≤ 400000) <| (q19.2[r21.1]?).bind fun v25 => lett ((q19.2.eraseIdx r21.1) : (List Nat)) fun c27 => some (some v25, (r21.2, c27)) : Option (Option Nat × (((List Int) × Nat × Nat × Nat × Bool × Nat × Nat) × (List Nat))))) (List.range n) (r1.2, c8)).bind fun r28 =>
  some (r28.1, r28.2.1))
theorem tt_law_names {h : MH} {pool : ((List Int) × Nat × Nat × Nat × Bool × Nat × Nat)} {l0 : Nat} {n : Nat} {r : ((List Nat) × ((List Int) × Nat × Nat × Nat × Bool × Nat × Nat))} (w0 : h[l0]? = some (c_RX7cel_at_res_lef_odd_see_turFINNNBNN pool)) (e : t_law_names pool n = some r) : f_law_names [.ref l0, (nV n)] h = ok (MV.fls (List.map nV r.1)) (h.set l0 (c_RX7cel_at_res_lef_odd_see_turFINNNBNN r.2)) := by
  unfold t_law_names at e
  obtain ⟨o, eo, h9, e9, fr9, w9_0⟩ : ∃ o, m_law_names [some (.ref l0), some ((nV n)), none, none] h = some o ∧ ∃ h9, defK (some o) = ok (MV.fls (List.map nV r.1)) h9 ∧ Fr h [l0] h9 ∧ h9[l0]? = some (c_RX7cel_at_res_lef_odd_see_turFINNNBNN r.2) := by
    unfold m_law_names
    have fr0 : Fr h [l0] h := Fr.refl
    obtain ⟨r1, b_r1, e⟩ := obind e
    have c2 := tt_law_take (h := h) w0 b_r1
    obtain ⟨h3, q_h3⟩ : ∃ x : MH, x = h.set l0 (c_RX7cel_at_res_lef_odd_see_turFINNNBNN r1.2) := ⟨_, rfl⟩
    have w_h3_0 : h3[l0]? = some (c_RX7cel_at_res_lef_odd_see_turFINNNBNN r1.2) := by rw [q_h3]; exact g_eq w0
    have fr_h3 : Fr h [l0] h3 := by rw [q_h3]; exact fr0.inn (by simp)
    rw [← q_h3] at c2
    rcases ite_e e with ⟨hc, e⟩ | ⟨hc, e⟩
    · refine W_st (r_tst (r_eq (i := r1.1) (j := 0) (callM_ok (consA_ok (r_var rfl) (consA_ok rfl r_nil)) c2) rfl)) hc ?_
      obtain ⟨g_4, e⟩ := gd_e e
      refine W_sret (r_fls (z_rng (r_var rfl) g_4)) ?_
      obtain rfl := some_e e
      exact ⟨_, rfl, fr_h3, w_h3_0⟩
    · refine W_sf (r_tst (r_eq (i := r1.1) (j := 0) (callM_ok (consA_ok (r_var rfl) (consA_ok rfl r_nil)) c2) rfl)) hc ?_
      refine W_nils ?_
      obtain ⟨g_5, e⟩ := gd_e e
      obtain ⟨c8, h_c8, e⟩ := lett_e e
      obtain ⟨p6, q_p6⟩ : ∃ x : Nat, x = h3.length := ⟨_, rfl⟩
      obtain ⟨h7, q_h7⟩ : ∃ x : MH, x = h3 ++ [(MO.lst (List.map nV c8))] := ⟨_, rfl⟩
      have n_p6_0 : l0 ≠ p6 := by rw [q_p6]; exact Nat.ne_of_lt (g_lt w_h3_0)
      have w_h7_0 : h7[l0]? = some (c_RX7cel_at_res_lef_odd_see_turFINNNBNN r1.2) := by rw [q_h7]; exact g_ap w_h3_0
      have w_h7_1 : h7[p6]? = some (MO.lst (List.map nV c8)) := by rw [q_h7]; exact g_nw q_p6
      have lo_p6 : h.length ≤ p6 := by rw [q_p6]; exact fr_h3.1
      have fr_h7 : Fr h [l0] h7 := by rw [q_h7]; exact fr_h3.app
      refine W_seq (setS_ok (y_ref (z_rng (r_var rfl) g_5) q_p6 (Eq.trans q_h7 (congrArg (fun z => h3 ++ [(MO.lst (List.map nV z))]) h_c8)))) ?_
      obtain ⟨g_9, e⟩ := gd_e e
      obtain ⟨g_18, e⟩ := gd_e e
      obtain ⟨r28, b_r28, e⟩ := obind e
      obtain ⟨h29, z30, fr_h29, w_h29_0, w_h29_1⟩ : ∃ h29, (lcM (rng1 (consA (varM 1) nilA)) [3] (one 3) yesT (mthM popAtF (varM 2) (consA (callM f_law_take [] (consA (varM 0) (consA (bltM lenF (consA (varM 2) nilA)) nilA))) nilA))) [some (.ref l0), some (nV n), some (.ref p6), none] h7 = ok (List.map nV r28.1) h29 ∧ Fr h [l0] h29 ∧ h29[l0]? = some (c_RX7cel_at_res_lef_odd_see_turFINNNBNN r28.2.1) ∧ h29[p6]? = some (MO.lst (List.map nV r28.2.2)) := by
        refine z_lcW (f := nV) (g := nV) (xs := (List.range n)) (fun (q19 : (((List Int) × Nat × Nat × Nat × Bool × Nat × Nat) × (List Nat))) (h20 : MH) => Fr h [l0] h20 ∧ h20[l0]? = some (c_RX7cel_at_res_lef_odd_see_turFINNNBNN q19.1) ∧ h20[p6]? = some (MO.lst (List.map nV q19.2))) (q_rng (n := n) (r_var rfl) g_9) g_18 (fun _ => rfl) (fun q19 k10 h20 o ra e => ?_) ⟨fr_h7, w_h7_0, w_h7_1⟩ b_r28
        obtain ⟨fr_h20, w_h20_0, w_h20_1⟩ := ra
        obtain ⟨r21, b_r21, e⟩ := obind e
        have c22 := tt_law_take (h := h20) w_h20_0 b_r21
        obtain ⟨h23, q_h23⟩ : ∃ x : MH, x = h20.set l0 (c_RX7cel_at_res_lef_odd_see_turFINNNBNN r21.2) := ⟨_, rfl⟩
        have w_h23_0 : h23[l0]? = some (c_RX7cel_at_res_lef_odd_see_turFINNNBNN r21.2) := by rw [q_h23]; exact g_eq w_h20_0
        have w_h23_1 : h23[p6]? = some (MO.lst (List.map nV q19.2)) := by rw [q_h23]; exact g_ne w_h20_1 n_p6_0
        have fr_h23 : Fr h [l0] h23 := by rw [q_h23]; exact fr_h20.inn (by simp)
        rw [← q_h23] at c22
        obtain ⟨g_24, e⟩ := gd_e e
        obtain ⟨v25, b_v25, e⟩ := obind e
        obtain ⟨c27, h_c27, e⟩ := lett_e e
        obtain ⟨h26, q_h26⟩ : ∃ x : MH, x = h23.set p6 (MO.lst (List.map nV c27)) := ⟨_, rfl⟩
        have w_h26_0 : h26[l0]? = some (c_RX7cel_at_res_lef_odd_see_turFINNNBNN r21.2) := by rw [q_h26]; exact g_ne w_h23_0 (Ne.symm n_p6_0)
        have w_h26_1 : h26[p6]? = some (MO.lst (List.map nV c27)) := by rw [q_h26]; exact g_eq w_h23_1
        have fr_h26 : Fr h [l0] h26 := by rw [q_h26]; exact fr_h23.out lo_p6
        obtain rfl := some_e e
        exact ⟨_, _, ⟨_, rfl, rfl, (y_popAt (f := nV) (xs := q19.2) (i := r21.1) (r_var rfl) (consA_ok (callM_ok (consA_ok (r_var rfl) (consA_ok (y_len (f := nV) (xs := q19.2) (r_var rfl) (sq_ref w_h20_1)) r_nil)) c22) r_nil) w_h20_1 w_h23_1 b_v25 g_24 (Eq.trans q_h26 (congrArg (fun z => List.set h23 p6 (MO.lst (List.map nV z))) h_c27)))⟩, ⟨fr_h26, w_h26_0, w_h26_1⟩⟩
      refine W_ret (r_fls z30) ?_
      obtain rfl := some_e e
      exact ⟨_, rfl, fr_h29, w_h29_0⟩
  have ef : defM 2 4 m_law_names [.ref l0, (nV n)] h = ok (MV.fls (List.map nV r.1)) h9 := x_law_names.trans (by rw [eo]; exact e9)
  have := cut_fr ef fr9 ((fun (q : (List Nat)) => clo_F (f := nV) (fun _ => rfl)) r.1) (fun l hl => by rw [List.mem_singleton.mp hl]; exact ⟨_, w9_0, (and_i ((fun (q : (List Int)) => clo_F (f := MV.int) (fun _ => rfl)) r.2.1) (and_i ((fun _ => rfl) r.2.2.1) (and_i ((fun _ => rfl) r.2.2.2.1) (and_i ((fun _ => rfl) r.2.2.2.2.1) (and_i ((fun _ => rfl) r.2.2.2.2.2.1) (and_i ((fun _ => rfl) r.2.2.2.2.2.2.1) (and_i ((fun _ => rfl) r.2.2.2.2.2.2.2) (rfl))))))))⟩)
  rwa [fr9.to1 w9_0] at this
def tb1_law_space (names : (List Nat)) (up : (List (List Nat))) (i14 : Nat) (v17 : Nat) (q21 : (List (List Nat))) (j22 : Nat) : Option (List (List Nat)) :=
  (up[i14]?).bind fun v25 =>
  (v25[j22]?).bind fun v26 =>
  (q21[v17]?).bind fun row27 =>
  (names[j22]?).bind fun v29 =>
  gd (v29 < row27.length) <|
  lett (q21.set v17 (row27.set v29 v26) : (List (List Nat))) fun c31 =>
  some c31
def tb2_law_space (names : (List Nat)) (up : (List (List Nat))) (q13 : (List (List Nat))) (i14 : Nat) : Option (List (List Nat)) :=
  (names[i14]?).bind fun v17 =>
  (q13[v17]?).bind fun row18 =>
  gd (names.length ≤ 400000) <|
  (forO (tb1_law_space names up i14 v17) (List.range names.length) q13).bind fun q33 =>
  some q33
def tb3_law_space (names : (List Nat)) (q35 : (List (List Nat))) (q38 : (List (Nat × Nat))) (x39 : Nat) : Option (List (Nat × Nat)) :=
  gd (names.length ≤ 400000) <|
  gd ((List.range names.length).length ≤ 400000) <|
  (lcO (fun y43 : Nat => (q35[x39]?).bind fun row44 => (row44[y43]?).bind fun v46 => some (decide (v46 = 1))) (fun y43 : Nat => ( some (x39, y43) : Option (Nat × Nat))) (List.range names.length)).bind fun r48 =>
  gd (q38.length + r48.length ≤ 400000) <|
  lett ((q38 ++ r48) : (List (Nat × Nat))) fun pairs51 =>
  some pairs51
def t_law_space (names : (List Nat)) (up : (List (List Nat))) : Option ((Nat × (List (Nat × Nat))) × (List (List Nat)) × (List Nat)) :=
  gd (names.length ≤ 400000) <|
  gd ((List.range names.length).length ≤ 400000) <|
  (lcO (fun _ => some true) (fun k2 : Nat => (gd ([0].length * names.length ≤ 400000) <| gd (names.length ≤ 400000) <| some (List.replicate names.length [0]).flatten : Option (List Nat))) (List.range names.length)).bind fun rows7 =>
  gd (names.length ≤ 400000) <|
  (forO (tb2_law_space names up) (List.range names.length) rows7).bind fun q35 =>
  gd (names.length ≤ 400000) <|
  (forO (tb3_law_space names q35) (List.range names.length) []).bind fun q52 =>
  lett (((names.length, q52), q35, names) : ((Nat × (List (Nat × Nat))) × (List (List Nat)) × (List Nat))) fun c58 =>
  some c58
theorem tt_law_space {h : MH} {names : (List Nat)} {up : (List (List Nat))} {r : ((Nat × (List (Nat × Nat))) × (List (List Nat)) × (List Nat))}  (e : t_law_space names up = some r) : ∃ p9 h9, f_law_space [(MV.fls (List.map nV names)), (MV.fls (List.map e_FN up))] h = ok (.ref p9) h9 ∧ Fr h [] h9 ∧ h.length ≤ p9 ∧ h9[p9]? = some (c_RX3ord_und_namP2NVP2NNFFNFN r) := by
  unfold t_law_space at e
  obtain ⟨o, eo, p9, h9, e9, fr9, lo9, w9⟩ : ∃ o, m_law_space [some ((MV.fls (List.map nV names))), some ((MV.fls (List.map e_FN up))), none, none, none, none, none, none, none, none, none] h = some o ∧ ∃ p9 h9, defK (some o) = ok (.ref p9) h9 ∧ Fr h [] h9 ∧ h.length ≤ p9 ∧ h9[p9]? = some (c_RX3ord_und_namP2NVP2NNFFNFN r) := by
    unfold m_law_space
    have fr0 : Fr h [] h := Fr.refl
    refine W_seq (setS_ok (y_len (f := nV) (xs := names) (r_var rfl) rfl)) ?_
    obtain ⟨g_1, e⟩ := gd_e e
    obtain ⟨g_6, e⟩ := gd_e e
    obtain ⟨rows7, b_rows7, e⟩ := obind e
    obtain ⟨p8, R9, h10, a11, w_h10, fx_h10, lx_p8⟩ := y_mx (mi := (rng1 (consA (varM 2) nilA))) (g := (one 4)) (vs := [4]) (s := [some (MV.fls (List.map nV names)), some (MV.fls (List.map e_FN up)), some (nV names.length), none, none, none, none, none, none, none, none]) (h := h) (e := nV) (xs := (List.range names.length)) (v := (fun k2 : Nat => (gd ([0].length * names.length ≤ 400000) <| gd (names.length ≤ 400000) <| some (List.replicate names.length [0]).flatten : Option (List Nat)))) (el := (repL (flsM (lstM (consA (cM (.int 0)) nilA))) (varM 2))) nV (q_rng (n := names.length) (r_var rfl) g_1) g_6 (fun _ => rfl) (fun k2 y h3 e => by
          obtain ⟨g_4, e⟩ := gd_e e
          obtain ⟨g_5, e⟩ := gd_e e
          obtain rfl := some_e e
          exact (z_rep (f := nV) (xs := [0]) (i := names.length) (r_fls (r_lst (consA_ok rfl r_nil) (by show 1 ≤ 400000; omega))) (r_var rfl) rfl g_4 g_5)) b_rows7 (b := h.length) fr0.1
    have fr_h10 : Fr h [] h10 := fr0.tr0 fx_h10
    refine W_seq (setS_ok a11) ?_
    obtain ⟨g_12, e⟩ := gd_e e
    obtain ⟨q35, b_q35, e⟩ := obind e
    refine W_forO (e := nV) (xs := (List.range names.length)) (f := (tb2_law_space names up)) (fun (q13 : (List (List Nat))) s15 h16 => s15 = [some (MV.fls (List.map nV names)), some (MV.fls (List.map e_FN up)), some (nV names.length), some (.ref p8), none, none, none, none, none, none, none] ∧ Fr h [] h16 ∧ Mx h16 h.length p8 R9 nV q13) (q_rng (n := names.length) (r_var rfl) g_12) ⟨rfl, fr_h10, w_h10⟩ b_q35 (fun q13 i14 s h16 b ra e => ?_) ?_
    · obtain ⟨rfl, fr_h16, w_h16_0⟩ := ra
      unfold tb2_law_space at e
      refine W_turn rfl ?_
      unfold b2_law_space
      refine W_wip' ?_
      obtain ⟨v17, b_v17, e⟩ := obind e
      obtain ⟨row18, b_row18, e⟩ := obind e
      obtain ⟨rr19, er_rr19, wr_rr19⟩ := Mx.get w_h16_0 b_row18
      refine W_seq (setS_ok (y_mxrow (i := v17) (r_var rfl) (y_ix (f := nV) (xs := names) (i := i14) (r_var rfl) (r_var rfl) rfl b_v17) w_h16_0 er_rr19)) ?_
      refine W_lst ?_
      obtain ⟨g_20, e⟩ := gd_e e
      obtain ⟨q33, b_q33, e⟩ := obind e
      refine W_forO (e := nV) (xs := (List.range names.length)) (f := (tb1_law_space names up i14 v17)) (fun (q21 : (List (List Nat))) s23 h24 => s23 = [some (MV.fls (List.map nV names)), some (MV.fls (List.map e_FN up)), some (nV names.length), some (.ref p8), none, some (nV i14), some (.ref rr19), none, none, none, none] ∧ Fr h [] h24 ∧ Mx h24 h.length p8 R9 nV q21) (q_rng (n := names.length) (r_var rfl) g_20) ⟨rfl, fr_h16, w_h16_0⟩ b_q33 (fun q21 j22 s h24 b ra e => ?_) ?_
      · obtain ⟨rfl, fr_h24, w_h24_0⟩ := ra
        unfold tb1_law_space at e
        refine W_turn rfl ?_
        unfold b1_law_space
        refine W_wip' ?_
        refine W_lst ?_
        obtain ⟨v25, b_v25, e⟩ := obind e
        obtain ⟨v26, b_v26, e⟩ := obind e
        obtain ⟨row27, b_row27, e⟩ := obind e
        have wr28 := w_h24_0.2.2.2.2 _ _ _ er_rr19 b_row27
        obtain ⟨v29, b_v29, e⟩ := obind e
        obtain ⟨g_30, e⟩ := gd_e e
        obtain ⟨c31, h_c31, e⟩ := lett_e e
        obtain ⟨h32, q_h32⟩ : ∃ x : MH, x = h24.set rr19 (MO.lst (List.map nV (row27.set v29 v26))) := ⟨_, rfl⟩
        have w_h32_0 : Mx h32 h.length p8 R9 nV c31 := by rw [q_h32, h_c31]; exact Mx.put w_h24_0 er_rr19
        have fr_h32 : Fr h [] h32 := by rw [q_h32]; exact Fr.out fr_h24 (Mx.low w_h24_0 _ (List.mem_cons_of_mem _ (List.mem_of_getElem? er_rr19)))
        refine W_seq (y_mxput (f := nV) (row := row27) (j := v29) (x := v26) (er := varM 0) (zs := []) (y_ix (f := nV) (xs := v25) (i := j22) (y_ix (f := e_FN) (xs := up) (i := i14) (r_var rfl) (r_var rfl) rfl b_v25) (r_var rfl) rfl b_v26) (r_var rfl) (y_ix (f := nV) (xs := names) (i := j22) (r_var rfl) (r_var rfl) rfl b_v29) wr28 g_30 q_h32) ?_
        refine W_nil ?_
        obtain rfl := some_e e
        exact ⟨_, rfl, _, _, .inl rfl, ⟨rfl, fr_h32, w_h32_0⟩⟩
      rintro _ h34 ⟨rfl, fr_h34, w_h34_0⟩
      refine W_nil ?_
      obtain rfl := some_e e
      exact ⟨_, rfl, _, _, .inl rfl, ⟨rfl, fr_h34, w_h34_0⟩⟩
    rintro _ h36 ⟨rfl, fr_h36, w_h36_0⟩
    refine W_seq (setS_ok (r_fls (r_lst r_nil (by show 0 ≤ 400000; omega)))) ?_
    obtain ⟨g_37, e⟩ := gd_e e
    obtain ⟨q52, b_q52, e⟩ := obind e
    refine W_forO (e := nV) (xs := (List.range names.length)) (f := (tb3_law_space names q35)) (fun (q38 : (List (Nat × Nat))) s40 h41 => s40 = [some (MV.fls (List.map nV names)), some (MV.fls (List.map e_FN up)), some (nV names.length), some (.ref p8), none, none, none, none, some (MV.fls (List.map prV q38)), none, none] ∧ h36 = h41) (q_rng (n := names.length) (r_var rfl) g_37) ⟨rfl, rfl⟩ b_q52 (fun q38 x39 s h41 b ra e => ?_) ?_
    · obtain ⟨rfl, rfl⟩ := ra
      unfold tb3_law_space at e
      refine W_turn rfl ?_
      unfold b3_law_space
      refine W_wip' ?_
      refine W_lst ?_
      obtain ⟨g_42, e⟩ := gd_e e
      obtain ⟨g_47, e⟩ := gd_e e
      obtain ⟨r48, b_r48, e⟩ := obind e
      have z49 : (lcM (rng1 (consA (varM 2) nilA)) [10] (one 10) (tstM (opM eqF (opM ixF (opM ixF (varM 3) (varM 9)) (varM 10)) (cM (.int 1)))) (tupM (consA (varM 9) (consA (varM 10) nilA)))) [some (MV.fls (List.map nV names)), some (MV.fls (List.map e_FN up)), some (nV names.length), some (.ref p8), none, none, none, none, some (MV.fls (List.map prV q38)), some (nV x39), none] h36 = ok (List.map prV r48) h36 := z_lcO (f := nV) (g := prV) (xs := (List.range names.length)) (q_rng (n := names.length) (r_var rfl) g_42) g_47 (fun _ => rfl)
          (fun y43 b e => by
            obtain ⟨row44, b_row44, e⟩ := obind e
            obtain ⟨rr45, er_rr45, wr_rr45⟩ := Mx.get w_h36_0 b_row44
            obtain ⟨v46, b_v46, e⟩ := obind e
            obtain rfl := some_e e
            exact (r_tst (r_eq (i := v46) (j := 1) (y_ix (f := nV) (xs := row44) (i := y43) (y_mxrow (i := x39) (r_var rfl) (r_var rfl) w_h36_0 er_rr45) (r_var rfl) (sq_ref wr_rr45) b_v46) rfl)))
          (fun y43 y e => by
            obtain rfl := some_e e
            exact (tupM_ok (consA_ok (r_var rfl) (consA_ok (r_var rfl) r_nil)) (by show 2 ≤ 1000; omega))) b_r48
      obtain ⟨g_50, e⟩ := gd_e e
      obtain ⟨pairs51, h_pairs51, e⟩ := lett_e e
      refine W_seq (setS_ok (ok_lt (f := e_FP2NN) h_pairs51 (r_fls (z_cat (f := prV) (xs := q38) (ys := r48) (r_var rfl) (r_fls z49) rfl rfl g_50)))) ?_
      refine W_nil ?_
      obtain rfl := some_e e
      exact ⟨_, rfl, _, _, .inl rfl, ⟨rfl, rfl⟩⟩
    rintro _ _ ⟨rfl, rfl⟩
    obtain ⟨p53, q_p53⟩ : ∃ x : Nat, x = h36.length := ⟨_, rfl⟩
    obtain ⟨h54, q_h54⟩ : ∃ x : MH, x = h36 ++ [(MO.dK (List.map (fun (q : Nat × Nat) => (kyN q.1, (nV q.2))) []))] := ⟨_, rfl⟩
    have n_p53_0 : p53 ∉ p8 :: R9 := Mx.new w_h36_0 q_p53
    have w_h54_0 : Mx h54 h.length p8 R9 nV q35 := by rw [q_h54]; exact Mx.app w_h36_0
    have w_h54_1 : h54[p53]? = some (MO.dK (List.map (fun (q : Nat × Nat) => (kyN q.1, (nV q.2))) [])) := by rw [q_h54]; exact g_nw q_p53
    have lo_p53 : h.length ≤ p53 := by rw [q_p53]; exact fr_h36.1
    have fr_h54 : Fr h [] h54 := by rw [q_h54]; exact fr_h36.app
    obtain ⟨h55, fz56, k_h55, l_h55⟩ := y_frzM (a := (varM 3)) (s := [some (MV.fls (List.map nV names)), some (MV.fls (List.map e_FN up)), some (nV names.length), some (.ref p8), none, none, none, none, some (MV.fls (List.map prV q52)), none, none]) (h := h54) (fun _ => rfl) (r_var rfl) w_h54_0
    have w_h55_1 : h55[p53]? = some (MO.dK (List.map (fun (q : Nat × Nat) => (kyN q.1, (nV q.2))) [])) := (k_h55 _ n_p53_0).trans w_h54_1
    have fr_h55 : Fr h [] h55 := Fr.keep fr_h54 k_h55 (Mx.low w_h54_0) l_h55
    obtain ⟨c58, h_c58, e⟩ := lett_e e
    obtain ⟨h57, q_h57⟩ : ∃ x : MH, x = h55.set p53 (c_RX3ord_und_namP2NVP2NNFFNFN c58) := ⟨_, rfl⟩
    have w_h57_1 : h57[p53]? = some (c_RX3ord_und_namP2NVP2NNFFNFN c58) := by rw [q_h57]; exact g_eq w_h55_1
    have fr_h57 : Fr h [] h57 := by rw [q_h57]; exact fr_h55.out lo_p53
    refine W_ret (y_disp q_p53 q_h54 (pr_cons (tupM_ok (consA_ok (r_var rfl) (consA_ok (r_tupf (r_var rfl)) r_nil)) (by show 2 ≤ 1000; omega)) (pr_cons fz56 (pr_cons (r_var rfl) pr_nil))) w_h55_1 (by show 3 ≤ 15; omega) (Eq.trans rfl (Eq.symm (Eq.trans q_h57 (congrArg (fun z => List.set h55 p53 (c_RX3ord_und_namP2NVP2NNFFNFN z)) h_c58))))) ?_
    obtain rfl := some_e e
    exact ⟨_, _, rfl, fr_h57, lo_p53, w_h57_1⟩
  exact ⟨p9, h9, cut_ref (x_law_space.trans (by rw [eo]; exact e9)) lo9, fr9, lo9, w9⟩
def t_law_floors (pool : ((List Int) × Nat × Nat × Nat × Bool × Nat × Nat)) (n : Nat) (wide : Nat) : Option (((Nat × (List (Nat × Nat))) × (List (List Nat)) × (List Nat)) × ((List Int) × Nat × Nat × Nat × Bool × Nat × Nat)) :=
  gd (n ≤ 400000) <|
  gd ((List.range n).length ≤ 400000) <|
  (lcO (fun i2 : Nat =>  some true) (fun i2 : Nat => (gd (n ≤ 400000) <| gd ((List.range n).length ≤ 400000) <| (lcO (fun j4 : Nat =>  some true) (fun j4 : Nat => (gd (0 < wide ∧ wide < 1000000000) <| gd (0 < wide ∧ wide < 1000000000) <| some ((decide ((i2 / wide) < (j4 / wide)))).toNat : Option Nat)) (List.range n)).bind fun r8 => some r8 : Option (List Nat))) (List.range n)).bind fun r11 =>
  (t_law_names pool n).bind fun r13 =>
  (t_law_space r13.1 r11).bind fun r16 =>
  some (r16, r13.2)
theorem tt_law_floors {h : MH} {pool : ((List Int) × Nat × Nat × Nat × Bool × Nat × Nat)} {l0 : Nat} {n : Nat} {wide : Nat} {r : (((Nat × (List (Nat × Nat))) × (List (List Nat)) × (List Nat)) × ((List Int) × Nat × Nat × Nat × Bool × Nat × Nat))} (w0 : h[l0]? = some (c_RX7cel_at_res_lef_odd_see_turFINNNBNN pool)) (e : t_law_floors pool n wide = some r) : ∃ p9 h9, f_law_floors [.ref l0, (nV n), (nV wide)] h = ok (.ref p9) h9 ∧ Fr h [l0] h9 ∧ h.length ≤ p9 ∧ h9[p9]? = some (c_RX3ord_und_namP2NVP2NNFFNFN r.1) ∧ h9[l0]? = some (c_RX7cel_at_res_lef_odd_see_turFINNNBNN r.2) := by
  unfold t_law_floors at e
  obtain ⟨o, eo, p9, h9, e9, fr9, lo9, w9, w9_0⟩ : ∃ o, m_law_floors [some (.ref l0), some ((nV n)), some ((nV wide)), none, none, none] h = some o ∧ ∃ p9 h9, defK (some o) = ok (.ref p9) h9 ∧ Fr h [l0] h9 ∧ h.length ≤ p9 ∧ h9[p9]? = some (c_RX3ord_und_namP2NVP2NNFFNFN r.1) ∧ h9[l0]? = some (c_RX7cel_at_res_lef_odd_see_turFINNNBNN r.2) := by
    unfold m_law_floors
    have fr0 : Fr h [l0] h := Fr.refl
    obtain ⟨g_1, e⟩ := gd_e e
    obtain ⟨g_10, e⟩ := gd_e e
    obtain ⟨r11, b_r11, e⟩ := obind e
    have z12 : (lcM (rng1 (consA (varM 1) nilA)) [5] (one 5) yesT (flsM (lcM (rng1 (consA (varM 1) nilA)) [4] (one 4) yesT (bltM intF (consA (opM ltF (opM divF (varM 5) (varM 2)) (opM divF (varM 4) (varM 2))) nilA))))) [some (.ref l0), some (nV n), some (nV wide), none, none, none] h = ok (List.map e_FN r11) h := z_lcO (f := nV) (g := e_FN) (xs := (List.range n)) (q_rng (n := n) (r_var rfl) g_1) g_10 (fun _ => rfl)
        (fun i2 b e => by
          obtain rfl := some_e e
          exact rfl)
        (fun i2 y e => by
          obtain ⟨g_3, e⟩ := gd_e e
          obtain ⟨g_7, e⟩ := gd_e e
          obtain ⟨r8, b_r8, e⟩ := obind e
          have z9 : (lcM (rng1 (consA (varM 1) nilA)) [4] (one 4) yesT (bltM intF (consA (opM ltF (opM divF (varM 5) (varM 2)) (opM divF (varM 4) (varM 2))) nilA))) [some (.ref l0), some (nV n), some (nV wide), none, none, some (nV i2)] h = ok (List.map nV r8) h := z_lcO (f := nV) (g := nV) (xs := (List.range n)) (q_rng (n := n) (r_var rfl) g_3) g_7 (fun _ => rfl)
              (fun j4 b e => by
                obtain rfl := some_e e
                exact rfl)
              (fun j4 y e => by
                obtain ⟨g_5, e⟩ := gd_e e
                obtain ⟨g_6, e⟩ := gd_e e
                obtain rfl := some_e e
                exact (y_intB (r_lt (i := (i2 / wide)) (j := (j4 / wide)) (n_div (i := i2) (j := wide) (r_var rfl) (r_var rfl) g_5) (n_div (i := j4) (j := wide) (r_var rfl) (r_var rfl) g_6)))) b_r8
          obtain rfl := some_e e
          exact (r_fls z9)) b_r11
    refine W_seq (setS_ok (r_fls z12)) ?_
    obtain ⟨r13, b_r13, e⟩ := obind e
    have c14 := tt_law_names (h := h) w0 b_r13
    obtain ⟨h15, q_h15⟩ : ∃ x : MH, x = h.set l0 (c_RX7cel_at_res_lef_odd_see_turFINNNBNN r13.2) := ⟨_, rfl⟩
    have w_h15_0 : h15[l0]? = some (c_RX7cel_at_res_lef_odd_see_turFINNNBNN r13.2) := by rw [q_h15]; exact g_eq w0
    have fr_h15 : Fr h [l0] h15 := by rw [q_h15]; exact fr0.inn (by simp)
    rw [← q_h15] at c14
    obtain ⟨r16, b_r16, e⟩ := obind e
    obtain ⟨p18, h19, c17, fx_h19, lx_p18, w_h19_1⟩ := tt_law_space (h := h15)  b_r16
    have n_p18_0 : l0 ≠ p18 := Nat.ne_of_lt (Nat.lt_of_lt_of_le (g_lt w_h15_0) lx_p18)
    have w_h19_0 : h19[l0]? = some (c_RX7cel_at_res_lef_odd_see_turFINNNBNN r13.2) := fx_h19.get w_h15_0 List.not_mem_nil
    have lo_p18 : h.length ≤ p18 := Nat.le_trans fr_h15.1 lx_p18
    have fr_h19 : Fr h [l0] h19 := fr_h15.tr0 fx_h19
    refine W_ret (callM_ok (consA_ok (callM_ok (consA_ok (r_var rfl) (consA_ok (r_var rfl) r_nil)) c14) (consA_ok (r_var rfl) r_nil)) c17) ?_
    obtain rfl := some_e e
    exact ⟨_, _, rfl, fr_h19, lo_p18, w_h19_1, w_h19_0⟩
  exact ⟨p9, h9, x_law_floors.trans (by rw [eo]; exact e9), fr9, lo9, w9, w9_0⟩
def tb1_law_drawn (r1 : (Nat × ((List Int) × Nat × Nat × Nat × Bool × Nat × Nat))) (i24 : Nat) (q31 : (((List Int) × Nat × Nat × Nat × Bool × Nat × Nat) × (List (List Nat)))) (j32 : Nat) : Option (((List Int) × Nat × Nat × Nat × Bool × Nat × Nat) × (List (List Nat))) :=
  gd (2 ≤ r1.1) <|
  ([2, 3, 4, 6][(r1.1 - 2)]?).bind fun v36 =>
  (t_law_take q31.1 v36).bind fun r37 =>
  (q31.2[i24]?).bind fun row40 =>
  gd (j32 < row40.length) <|
  lett (q31.2.set i24 (row40.set j32 ((decide (r37.1 = 0))).toNat) : (List (List Nat))) fun c43 =>
  some (r37.2, c43)
def tb2_law_drawn (n : Nat) (r1 : (Nat × ((List Int) × Nat × Nat × Nat × Bool × Nat × Nat))) (q23 : (((List Int) × Nat × Nat × Nat × Bool × Nat × Nat) × (List (List Nat)))) (i24 : Nat) : Option (((List Int) × Nat × Nat × Nat × Bool × Nat × Nat) × (List (List Nat))) :=
  (q23.2[i24]?).bind fun row27 =>
  gd ((i24 + 1) ≤ 400000) <|
  gd (n ≤ 400000) <|
  (forO (tb1_law_drawn r1 i24) (rng (i24 + 1) n) (q23.1, q23.2)).bind fun q45 =>
  some (q45.1, q45.2)
def tb3_law_drawn (n : Nat) (k51 : Nat) (q56 : (List (List Nat))) (i57 : Nat) : Option (List (List Nat)) :=
  (q56[i57]?).bind fun row61 =>
  (row61[k51]?).bind fun v63 =>
  if (decide (v63 = 1)) = true then (gd (n ≤ 400000) <|
  gd ((List.range n).length ≤ 400000) <|
  (lcO (fun j65 : Nat =>  some true) (fun j65 : Nat => ((q56[i57]?).bind fun row66 => (row66[j65]?).bind fun v68 => (q56[k51]?).bind fun row69 => (row69[j65]?).bind fun v71 => some ((decide (0 < (v68 + v71)))).toNat : Option Nat)) (List.range n)).bind fun r73 =>
  lett (r73 : (List Nat)) fun row75 =>
  gd (i57 < q56.length) <|
  lett (q56.set i57 row75 : (List (List Nat))) fun c77 =>
  some c77) else (some q56)
def tb4_law_drawn (n : Nat) (q50 : (List (List Nat))) (k51 : Nat) : Option (List (List Nat)) :=
  gd (k51 ≤ 400000) <|
  (forO (tb3_law_drawn n k51) (List.range k51) q50).bind fun q81 =>
  some q81
def t_law_drawn (pool : ((List Int) × Nat × Nat × Nat × Bool × Nat × Nat)) (n : Nat) : Option (((Nat × (List (Nat × Nat))) × (List (List Nat)) × (List Nat)) × ((List Int) × Nat × Nat × Nat × Bool × Nat × Nat)) :=
  (t_law_take pool 6).bind fun r1 =>
  if (decide (r1.1 < 2)) = true then ((t_law_take r1.2 (n + 1)).bind fun r4 =>
  (t_law_floors r4.2 n (1 + r4.1)).bind fun r7 =>
  some (r7.1, r7.2)) else (gd (n ≤ 400000) <|
  gd ((List.range n).length ≤ 400000) <|
  (lcO (fun _ => some true) (fun k12 : Nat => (gd ([0].length * n ≤ 400000) <| gd (n ≤ 400000) <| some (List.replicate n [0]).flatten : Option (List Nat))) (List.range n)).bind fun rows17 =>
  gd (n ≤ 400000) <|
  (forO (tb2_law_drawn n r1) (List.range n) (r1.2, rows17)).bind fun q47 =>
  gd (n ≤ 400000) <|
  (forO (tb4_law_drawn n) (List.range n) q47.2).bind fun q84 =>
  (t_law_names q47.1 n).bind fun r87 =>
  (t_law_space r87.1 q84).bind fun r92 =>
  some (r92, r87.2))
theorem tt_law_drawn {h : MH} {pool : ((List Int) × Nat × Nat × Nat × Bool × Nat × Nat)} {l0 : Nat} {n : Nat} {r : (((Nat × (List (Nat × Nat))) × (List (List Nat)) × (List Nat)) × ((List Int) × Nat × Nat × Nat × Bool × Nat × Nat))} (w0 : h[l0]? = some (c_RX7cel_at_res_lef_odd_see_turFINNNBNN pool)) (e : t_law_drawn pool n = some r) : ∃ p9 h9, f_law_drawn [.ref l0, (nV n)] h = ok (.ref p9) h9 ∧ Fr h [l0] h9 ∧ h.length ≤ p9 ∧ h9[p9]? = some (c_RX3ord_und_namP2NVP2NNFFNFN r.1) ∧ h9[l0]? = some (c_RX7cel_at_res_lef_odd_see_turFINNNBNN r.2) := by
  unfold t_law_drawn at e
  obtain ⟨o, eo, p9, h9, e9, fr9, lo9, w9, w9_0⟩ : ∃ o, m_law_drawn [some (.ref l0), some ((nV n)), none, none, none, none, none, none] h = some o ∧ ∃ p9 h9, defK (some o) = ok (.ref p9) h9 ∧ Fr h [l0] h9 ∧ h.length ≤ p9 ∧ h9[p9]? = some (c_RX3ord_und_namP2NVP2NNFFNFN r.1) ∧ h9[l0]? = some (c_RX7cel_at_res_lef_odd_see_turFINNNBNN r.2) := by
    unfold m_law_drawn
    have fr0 : Fr h [l0] h := Fr.refl
    obtain ⟨r1, b_r1, e⟩ := obind e
    have c2 := tt_law_take (h := h) w0 b_r1
    obtain ⟨h3, q_h3⟩ : ∃ x : MH, x = h.set l0 (c_RX7cel_at_res_lef_odd_see_turFINNNBNN r1.2) := ⟨_, rfl⟩
    have w_h3_0 : h3[l0]? = some (c_RX7cel_at_res_lef_odd_see_turFINNNBNN r1.2) := by rw [q_h3]; exact g_eq w0
    have fr_h3 : Fr h [l0] h3 := by rw [q_h3]; exact fr0.inn (by simp)
    rw [← q_h3] at c2
    refine W_seq (setS_ok (callM_ok (consA_ok (r_var rfl) (consA_ok rfl r_nil)) c2)) ?_
    rcases ite_e e with ⟨hc, e⟩ | ⟨hc, e⟩
    · refine W_st (r_tst (r_lt (i := r1.1) (j := 2) (r_var rfl) rfl)) hc ?_
      obtain ⟨r4, b_r4, e⟩ := obind e
      have c5 := tt_law_take (h := h3) w_h3_0 b_r4
      obtain ⟨h6, q_h6⟩ : ∃ x : MH, x = h3.set l0 (c_RX7cel_at_res_lef_odd_see_turFINNNBNN r4.2) := ⟨_, rfl⟩
      have w_h6_0 : h6[l0]? = some (c_RX7cel_at_res_lef_odd_see_turFINNNBNN r4.2) := by rw [q_h6]; exact g_eq w_h3_0
      have fr_h6 : Fr h [l0] h6 := by rw [q_h6]; exact fr_h3.inn (by simp)
      rw [← q_h6] at c5
      obtain ⟨r7, b_r7, e⟩ := obind e
      obtain ⟨p9, h10, c8, fx_h10, lx_p9, w_h10_1, w_h10_0⟩ := tt_law_floors (h := h6) w_h6_0 b_r7
      have n_p9_0 : l0 ≠ p9 := Nat.ne_of_lt (Nat.lt_of_lt_of_le (g_lt w_h6_0) lx_p9)
      have lo_p9 : h.length ≤ p9 := Nat.le_trans fr_h6.1 lx_p9
      have fr_h10 : Fr h [l0] h10 := fr_h6.tr fx_h10 (fun l hl => by rw [List.mem_singleton.mp hl]; exact .inl (by simp))
      refine W_sret (callM_ok (consA_ok (r_var rfl) (consA_ok (r_var rfl) (consA_ok (r_add (i := 1) (j := r4.1) rfl (callM_ok (consA_ok (r_var rfl) (consA_ok (r_add (i := n) (j := 1) (r_var rfl) rfl) r_nil)) c5)) r_nil))) c8) ?_
      obtain rfl := some_e e
      exact ⟨_, _, rfl, fr_h10, lo_p9, w_h10_1, w_h10_0⟩
    · refine W_sf (r_tst (r_lt (i := r1.1) (j := 2) (r_var rfl) rfl)) hc ?_
      refine W_nils ?_
      obtain ⟨g_11, e⟩ := gd_e e
      obtain ⟨g_16, e⟩ := gd_e e
      obtain ⟨rows17, b_rows17, e⟩ := obind e
      obtain ⟨p18, R19, h20, a21, w_h20, fx_h20, lx_p18⟩ := y_mx (mi := (rng1 (consA (varM 1) nilA))) (g := (one 4)) (vs := [4]) (s := [some (.ref l0), some (nV n), some (nV r1.1), none, none, none, none, none]) (h := h3) (e := nV) (xs := (List.range n)) (v := (fun k12 : Nat => (gd ([0].length * n ≤ 400000) <| gd (n ≤ 400000) <| some (List.replicate n [0]).flatten : Option (List Nat)))) (el := (repL (flsM (lstM (consA (cM (.int 0)) nilA))) (varM 1))) nV (q_rng (n := n) (r_var rfl) g_11) g_16 (fun _ => rfl) (fun k12 y h13 e => by
            obtain ⟨g_14, e⟩ := gd_e e
            obtain ⟨g_15, e⟩ := gd_e e
            obtain rfl := some_e e
            exact (z_rep (f := nV) (xs := [0]) (i := n) (r_fls (r_lst (consA_ok rfl r_nil) (by show 1 ≤ 400000; omega))) (r_var rfl) rfl g_14 g_15)) b_rows17 (b := h.length) fr_h3.1
      have n_R19_0 : l0 ∉ p18 :: R19 := fun z => Nat.lt_irrefl _ (Nat.lt_of_lt_of_le (g_lt w_h3_0) (lx_p18 _ z))
      have w_h20_0 : h20[l0]? = some (c_RX7cel_at_res_lef_odd_see_turFINNNBNN r1.2) := fx_h20.get w_h3_0 List.not_mem_nil
      have fr_h20 : Fr h [l0] h20 := fr_h3.tr0 fx_h20
      refine W_seq (setS_ok a21) ?_
      obtain ⟨g_22, e⟩ := gd_e e
      obtain ⟨q47, b_q47, e⟩ := obind e
      refine W_forO (e := nV) (xs := (List.range n)) (f := (tb2_law_drawn n r1)) (fun (q23 : (((List Int) × Nat × Nat × Nat × Bool × Nat × Nat) × (List (List Nat)))) s25 h26 => s25 = [some (.ref l0), some (nV n), some (nV r1.1), some (.ref p18), none, none, none, none] ∧ Fr h [l0] h26 ∧ h26[l0]? = some (c_RX7cel_at_res_lef_odd_see_turFINNNBNN q23.1) ∧ Mx h26 h.length p18 R19 nV q23.2) (q_rng (n := n) (r_var rfl) g_22) ⟨rfl, fr_h20, w_h20_0, w_h20⟩ b_q47 (fun q23 i24 s h26 b ra e => ?_) ?_
      · obtain ⟨rfl, fr_h26, w_h26_0, w_h26_2⟩ := ra
        unfold tb2_law_drawn at e
        refine W_turn rfl ?_
        unfold b2_law_drawn
        refine W_wip' ?_
        obtain ⟨row27, b_row27, e⟩ := obind e
        obtain ⟨rr28, er_rr28, wr_rr28⟩ := Mx.get w_h26_2 b_row27
        refine W_seq (setS_ok (y_mxrow (i := i24) (r_var rfl) (r_var rfl) w_h26_2 er_rr28)) ?_
        refine W_lst ?_
        obtain ⟨g_29, e⟩ := gd_e e
        obtain ⟨g_30, e⟩ := gd_e e
        obtain ⟨q45, b_q45, e⟩ := obind e
        refine W_forO (e := nV) (xs := (rng (i24 + 1) n)) (f := (tb1_law_drawn r1 i24)) (fun (q31 : (((List Int) × Nat × Nat × Nat × Bool × Nat × Nat) × (List (List Nat)))) s33 h34 => s33 = [some (.ref l0), some (nV n), some (nV r1.1), some (.ref p18), none, some (nV i24), some (.ref rr28), none] ∧ Fr h [l0] h34 ∧ h34[l0]? = some (c_RX7cel_at_res_lef_odd_see_turFINNNBNN q31.1) ∧ Mx h34 h.length p18 R19 nV q31.2) (q_rng2 (i := (i24 + 1)) (j := n) (r_add (i := i24) (j := 1) (r_var rfl) rfl) (r_var rfl) g_29 g_30) ⟨rfl, fr_h26, w_h26_0, w_h26_2⟩ b_q45 (fun q31 j32 s h34 b ra e => ?_) ?_
        · obtain ⟨rfl, fr_h34, w_h34_0, w_h34_2⟩ := ra
          unfold tb1_law_drawn at e
          refine W_turn rfl ?_
          unfold b1_law_drawn
          refine W_wip' ?_
          refine W_lst ?_
          obtain ⟨g_35, e⟩ := gd_e e
          obtain ⟨v36, b_v36, e⟩ := obind e
          obtain ⟨r37, b_r37, e⟩ := obind e
          have c38 := tt_law_take (h := h34) w_h34_0 b_r37
          obtain ⟨h39, q_h39⟩ : ∃ x : MH, x = h34.set l0 (c_RX7cel_at_res_lef_odd_see_turFINNNBNN r37.2) := ⟨_, rfl⟩
          have w_h39_0 : h39[l0]? = some (c_RX7cel_at_res_lef_odd_see_turFINNNBNN r37.2) := by rw [q_h39]; exact g_eq w_h34_0
          have w_h39_2 : Mx h39 h.length p18 R19 nV q31.2 := by rw [q_h39]; exact Mx.set w_h34_2 n_R19_0
          have fr_h39 : Fr h [l0] h39 := by rw [q_h39]; exact fr_h34.inn (by simp)
          rw [← q_h39] at c38
          obtain ⟨row40, b_row40, e⟩ := obind e
          have wr41 := w_h39_2.2.2.2.2 _ _ _ er_rr28 b_row40
          obtain ⟨g_42, e⟩ := gd_e e
          obtain ⟨c43, h_c43, e⟩ := lett_e e
          obtain ⟨h44, q_h44⟩ : ∃ x : MH, x = h39.set rr28 (MO.lst (List.map nV (row40.set j32 ((decide (r37.1 = 0))).toNat))) := ⟨_, rfl⟩
          have w_h44_0 : h44[l0]? = some (c_RX7cel_at_res_lef_odd_see_turFINNNBNN r37.2) := by rw [q_h44]; exact g_ne w_h39_0 (at_nin er_rr28 n_R19_0)
          have w_h44_2 : Mx h44 h.length p18 R19 nV c43 := by rw [q_h44, h_c43]; exact Mx.put w_h39_2 er_rr28
          have fr_h44 : Fr h [l0] h44 := by rw [q_h44]; exact Fr.out fr_h39 (Mx.low w_h39_2 _ (List.mem_cons_of_mem _ (List.mem_of_getElem? er_rr28)))
          refine W_seq (y_mxput (f := nV) (row := row40) (j := j32) (x := ((decide (r37.1 = 0))).toNat) (er := varM 0) (zs := []) (y_intB (r_eq (i := r37.1) (j := 0) (callM_ok (consA_ok (r_var rfl) (consA_ok (y_ix (f := nV) (xs := [2, 3, 4, 6]) (i := (r1.1 - 2)) (r_fls (r_lst (consA_ok rfl (consA_ok rfl (consA_ok rfl (consA_ok rfl r_nil)))) (by show 4 ≤ 400000; omega))) (r_sub (i := r1.1) (j := 2) (r_var rfl) rfl g_35) rfl b_v36) r_nil)) c38) rfl)) (r_var rfl) (r_var rfl) wr41 g_42 q_h44) ?_
          refine W_nil ?_
          obtain rfl := some_e e
          exact ⟨_, rfl, _, _, .inl rfl, ⟨rfl, fr_h44, w_h44_0, w_h44_2⟩⟩
        rintro _ h46 ⟨rfl, fr_h46, w_h46_0, w_h46_2⟩
        refine W_nil ?_
        obtain rfl := some_e e
        exact ⟨_, rfl, _, _, .inl rfl, ⟨rfl, fr_h46, w_h46_0, w_h46_2⟩⟩
      rintro _ h48 ⟨rfl, fr_h48, w_h48_0, w_h48_2⟩
      obtain ⟨g_49, e⟩ := gd_e e
      obtain ⟨q84, b_q84, e⟩ := obind e
      refine W_forO (e := nV) (xs := (List.range n)) (f := (tb4_law_drawn n)) (fun (q50 : (List (List Nat))) s53 h54 => ∃ R52 : List Nat, s53 = [some (.ref l0), some (nV n), some (nV r1.1), some (.ref p18), none, none, none, none] ∧ Fr h [l0] h54 ∧ h54[l0]? = some (c_RX7cel_at_res_lef_odd_see_turFINNNBNN q47.1) ∧ Mx h54 h.length p18 R52 nV q50 ∧ l0 ∉ p18 :: R52) (q_rng (n := n) (r_var rfl) g_49) ⟨_, rfl, fr_h48, w_h48_0, w_h48_2, n_R19_0⟩ b_q84 (fun q50 k51 s h54 b ra e => ?_) ?_
      · obtain ⟨R52, rfl, fr_h54, w_h54_0, w_h54_2, n_R52_0⟩ := ra
        unfold tb4_law_drawn at e
        refine W_turn rfl ?_
        unfold b4_law_drawn
        refine W_wip' ?_
        refine W_lst ?_
        obtain ⟨g_55, e⟩ := gd_e e
        obtain ⟨q81, b_q81, e⟩ := obind e
        refine W_forO (e := nV) (xs := (List.range k51)) (f := (tb3_law_drawn n k51)) (fun (q56 : (List (List Nat))) s59 h60 => ∃ R58 : List Nat, s59 = [some (.ref l0), some (nV n), some (nV r1.1), some (.ref p18), some (nV k51), none, none, none] ∧ Fr h [l0] h60 ∧ h60[l0]? = some (c_RX7cel_at_res_lef_odd_see_turFINNNBNN q47.1) ∧ Mx h60 h.length p18 R58 nV q56 ∧ l0 ∉ p18 :: R58) (q_rng (n := k51) (r_var rfl) g_55) ⟨_, rfl, fr_h54, w_h54_0, w_h54_2, n_R52_0⟩ b_q81 (fun q56 i57 s h60 b ra e => ?_) ?_
        · obtain ⟨R58, rfl, fr_h60, w_h60_0, w_h60_2, n_R58_0⟩ := ra
          unfold tb3_law_drawn at e
          refine W_turn rfl ?_
          unfold b3_law_drawn
          refine W_wip' ?_
          obtain ⟨row61, b_row61, e⟩ := obind e
          obtain ⟨rr62, er_rr62, wr_rr62⟩ := Mx.get w_h60_2 b_row61
          obtain ⟨v63, b_v63, e⟩ := obind e
          rcases ite_e e with ⟨hc, e⟩ | ⟨hc, e⟩
          · refine W_t (r_tst (r_eq (i := v63) (j := 1) (y_ix (f := nV) (xs := row61) (i := k51) (y_mxrow (i := i57) (r_var rfl) (r_var rfl) w_h60_2 er_rr62) (r_var rfl) (sq_ref wr_rr62) b_v63) rfl)) hc ?_
            refine W_lst ?_
            obtain ⟨g_64, e⟩ := gd_e e
            obtain ⟨g_72, e⟩ := gd_e e
            obtain ⟨r73, b_r73, e⟩ := obind e
            have z74 : (lcM (rng1 (consA (varM 1) nilA)) [7] (one 7) yesT (bltM intF (consA (opM gtF (opM addF (opM ixF (opM ixF (varM 3) (varM 5)) (varM 7)) (opM ixF (opM ixF (varM 3) (varM 4)) (varM 7))) (cM (.int 0))) nilA))) [some (.ref l0), some (nV n), some (nV r1.1), some (.ref p18), some (nV k51), some (nV i57), none, none] h60 = ok (List.map nV r73) h60 := z_lcO (f := nV) (g := nV) (xs := (List.range n)) (q_rng (n := n) (r_var rfl) g_64) g_72 (fun _ => rfl)
                (fun j65 b e => by
                  obtain rfl := some_e e
                  exact rfl)
                (fun j65 y e => by
                  obtain ⟨row66, b_row66, e⟩ := obind e
                  obtain ⟨rr67, er_rr67, wr_rr67⟩ := Mx.get w_h60_2 b_row66
                  obtain ⟨v68, b_v68, e⟩ := obind e
                  obtain ⟨row69, b_row69, e⟩ := obind e
                  obtain ⟨rr70, er_rr70, wr_rr70⟩ := Mx.get w_h60_2 b_row69
                  obtain ⟨v71, b_v71, e⟩ := obind e
                  obtain rfl := some_e e
                  exact (y_intB (r_gt (i := (v68 + v71)) (j := 0) (r_add (i := v68) (j := v71) (y_ix (f := nV) (xs := row66) (i := j65) (y_mxrow (i := i57) (r_var rfl) (r_var rfl) w_h60_2 er_rr67) (r_var rfl) (sq_ref wr_rr67) b_v68) (y_ix (f := nV) (xs := row69) (i := j65) (y_mxrow (i := k51) (r_var rfl) (r_var rfl) w_h60_2 er_rr70) (r_var rfl) (sq_ref wr_rr70) b_v71)) rfl))) b_r73
            obtain ⟨row75, h_row75, e⟩ := lett_e e
            obtain ⟨g_76, e⟩ := gd_e e
            obtain ⟨c77, h_c77, e⟩ := lett_e e
            obtain ⟨p79, q_p79⟩ : ∃ x : Nat, x = h60.length := ⟨_, rfl⟩
            obtain ⟨R80, q_R80⟩ : ∃ x : List Nat, x = R58.set i57 p79 := ⟨_, rfl⟩
            obtain ⟨h78, q_h78⟩ : ∃ x : MH, x = (h60 ++ [MO.lst (List.map nV row75)]).set p18 (MO.lst (List.map MV.ref (R58.set i57 p79))) := ⟨_, rfl⟩
            have w_h78_0 : h78[l0]? = some (c_RX7cel_at_res_lef_odd_see_turFINNNBNN q47.1) := by rw [q_h78]; exact g_ne (g_ap w_h60_0) (fun z => n_R58_0 (by rw [← z]; exact List.mem_cons_self ..))
            have n_R80_0 : l0 ∉ p18 :: R80 := by rw [q_R80]; exact fp_rep n_R58_0 (by rw [q_p79]; exact g_lt w_h60_0)
            have w_h78_2 : Mx h78 h.length p18 R80 nV c77 := by rw [q_h78, q_R80, h_c77]; exact Mx.rep w_h60_2 g_76 q_p79 (by rw [q_p79]; exact fr_h60.1)
            have fr_h78 : Fr h [l0] h78 := by rw [q_h78]; exact (Fr.app fr_h60).out (Mx.low w_h60_2 _ (List.mem_cons_self ..))
            refine W_seq (y_mxrep (f := nV) (row := row75) (i := i57) (by rw [h_row75]; exact z74) (r_var rfl) (r_var rfl) w_h60_2 g_76 q_p79 q_h78) ?_
            refine W_nil ?_
            obtain rfl := some_e e
            exact ⟨_, rfl, _, _, .inl rfl, ⟨_, rfl, fr_h78, w_h78_0, w_h78_2, n_R80_0⟩⟩
          · refine W_f (r_tst (r_eq (i := v63) (j := 1) (y_ix (f := nV) (xs := row61) (i := k51) (y_mxrow (i := i57) (r_var rfl) (r_var rfl) w_h60_2 er_rr62) (r_var rfl) (sq_ref wr_rr62) b_v63) rfl)) hc ?_
            refine W_nil ?_
            obtain rfl := some_e e
            exact ⟨_, rfl, _, _, .inl rfl, ⟨_, rfl, fr_h60, w_h60_0, w_h60_2, n_R58_0⟩⟩
        rintro _ h83 ⟨R82, rfl, fr_h83, w_h83_0, w_h83_2, n_R82_0⟩
        refine W_nil ?_
        obtain rfl := some_e e
        exact ⟨_, rfl, _, _, .inl rfl, ⟨_, rfl, fr_h83, w_h83_0, w_h83_2, n_R82_0⟩⟩
      rintro _ h86 ⟨R85, rfl, fr_h86, w_h86_0, w_h86_2, n_R85_0⟩
      obtain ⟨r87, b_r87, e⟩ := obind e
      have c88 := tt_law_names (h := h86) w_h86_0 b_r87
      obtain ⟨h89, q_h89⟩ : ∃ x : MH, x = h86.set l0 (c_RX7cel_at_res_lef_odd_see_turFINNNBNN r87.2) := ⟨_, rfl⟩
      have w_h89_0 : h89[l0]? = some (c_RX7cel_at_res_lef_odd_see_turFINNNBNN r87.2) := by rw [q_h89]; exact g_eq w_h86_0
      have w_h89_2 : Mx h89 h.length p18 R85 nV q84 := by rw [q_h89]; exact Mx.set w_h86_2 n_R85_0
      have fr_h89 : Fr h [l0] h89 := by rw [q_h89]; exact fr_h86.inn (by simp)
      rw [← q_h89] at c88
      obtain ⟨h90, fz91, k_h90, l_h90⟩ := y_frzM (a := (varM 3)) (s := [some (.ref l0), some (nV n), some (nV r1.1), some (.ref p18), none, none, none, none]) (h := h89) (fun _ => rfl) (r_var rfl) w_h89_2
      have w_h90_0 : h90[l0]? = some (c_RX7cel_at_res_lef_odd_see_turFINNNBNN r87.2) := (k_h90 _ n_R85_0).trans w_h89_0
      have fr_h90 : Fr h [l0] h90 := Fr.keep fr_h89 k_h90 (Mx.low w_h89_2) l_h90
      obtain ⟨r92, b_r92, e⟩ := obind e
      obtain ⟨p94, h95, c93, fx_h95, lx_p94, w_h95_3⟩ := tt_law_space (h := h90)  b_r92
      have n_p94_0 : l0 ≠ p94 := Nat.ne_of_lt (Nat.lt_of_lt_of_le (g_lt w_h90_0) lx_p94)
      have w_h95_0 : h95[l0]? = some (c_RX7cel_at_res_lef_odd_see_turFINNNBNN r87.2) := fx_h95.get w_h90_0 List.not_mem_nil
      have lo_p94 : h.length ≤ p94 := Nat.le_trans fr_h90.1 lx_p94
      have fr_h95 : Fr h [l0] h95 := fr_h90.tr0 fx_h95
      refine W_ret (callM_ok (consA_ok (callM_ok (consA_ok (r_var rfl) (consA_ok (r_var rfl) r_nil)) c88) (consA_ok fz91 r_nil)) c93) ?_
      obtain rfl := some_e e
      exact ⟨_, _, rfl, fr_h95, lo_p94, w_h95_3, w_h95_0⟩
  exact ⟨p9, h9, cut_ref (x_law_drawn.trans (by rw [eo]; exact e9)) lo9, fr9, lo9, w9, w9_0⟩
def t_law_leq (space : ((Nat × (List (Nat × Nat))) × (List (List Nat)) × (List Nat))) (a : Nat) (b : Nat) : Option Bool :=
  (if (decide (a = b)) = true then (some true) else ((space.2.1[a]?).bind fun v1 => (v1[b]?).bind fun v2 => some (decide (v2 = 1)))).bind fun c3 =>
  some c3
theorem tt_law_leq {h : MH} {space : ((Nat × (List (Nat × Nat))) × (List (List Nat)) × (List Nat))} {l0 : Nat} {a : Nat} {b : Nat} {r : Bool} (w0 : h[l0]? = some (c_RX3ord_und_namP2NVP2NNFFNFN space)) (e : t_law_leq space a b = some r) : f_law_leq [.ref l0, (nV a), (nV b)] h = ok (MV.bl r) h := by
  unfold t_law_leq at e
  refine x_law_leq.trans (fn_go ?_)
  unfold m_law_leq
  obtain ⟨c3, b_c3, e⟩ := obind e
  have a4 : (orV (opM eqF (varM 1) (varM 2)) (opM eqF (opM ixF (opM ixF (opM dgetF (varM 0) (cM (.str "under"))) (varM 1)) (varM 2)) (cM (.int 1)))) [some (.ref l0), some (nV a), some (nV b)] h = ok (MV.bl c3) h := by
    rcases ite_e b_c3 with ⟨hc, e⟩ | ⟨hc, e⟩
    · skip
      obtain rfl := some_e e
      exact y_orVt (r_eq (i := a) (j := b) (r_var rfl) (r_var rfl)) hc
    · skip
      obtain ⟨v1, b_v1, e⟩ := obind e
      obtain ⟨v2, b_v2, e⟩ := obind e
      obtain rfl := some_e e
      exact y_orVf (r_eq (i := a) (j := b) (r_var rfl) (r_var rfl)) hc (r_eq (i := v2) (j := 1) (y_ix (f := nV) (xs := v1) (i := b) (y_ix (f := e_FN) (xs := space.2.1) (i := a) (y_xget (r_var rfl) rfl w0 rfl rfl) (r_var rfl) rfl b_v1) (r_var rfl) rfl b_v2) rfl)
  refine W_ret a4 ?_
  obtain rfl := some_e e
  exact rfl
def t_law_bounds (space : ((Nat × (List (Nat × Nat))) × (List (List Nat)) × (List Nat))) (values : (List Nat)) (q_ : Nat) : Option Bool :=
  gd (values.length ≤ 400000) <|
  (lcO (fun one1 : Nat => (t_law_leq space one1 q_).bind fun r2 => some (!r2)) (fun one1 : Nat => ( some one1 : Option Nat)) values).bind fun r5 =>
  some (decide (r5.length = 0))
theorem tt_law_bounds {h : MH} {space : ((Nat × (List (Nat × Nat))) × (List (List Nat)) × (List Nat))} {l0 : Nat} {values : (List Nat)} {q_ : Nat} {r : Bool} (w0 : h[l0]? = some (c_RX3ord_und_namP2NVP2NNFFNFN space)) (e : t_law_bounds space values q_ = some r) : f_law_bounds [.ref l0, (MV.fls (List.map nV values)), (nV q_)] h = ok (MV.bl r) h := by
  unfold t_law_bounds at e
  refine x_law_bounds.trans (fn_go ?_)
  unfold m_law_bounds
  obtain ⟨g_4, e⟩ := gd_e e
  obtain ⟨r5, b_r5, e⟩ := obind e
  have z6 : (lcM (seqI (varM 1)) [3] (one 3) (notT (truM (callM f_law_leq [] (consA (varM 0) (consA (varM 3) (consA (varM 2) nilA)))))) (varM 3)) [some (.ref l0), some (MV.fls (List.map nV values)), some (nV q_), none] h = ok (List.map nV r5) h := z_lcO (f := nV) (g := nV) (xs := values) (q_fls (r_var rfl)) g_4 (fun _ => rfl)
      (fun one1 b e => by
        obtain ⟨r2, b_r2, e⟩ := obind e
        have c3 := tt_law_leq (h := h) w0 b_r2
        obtain rfl := some_e e
        exact (r_not (r_tru (callM_ok (consA_ok (r_var rfl) (consA_ok (r_var rfl) (consA_ok (r_var rfl) r_nil))) c3))))
      (fun one1 y e => by
        obtain rfl := some_e e
        exact (r_var rfl)) b_r5
  refine W_ret (r_eq (i := r5.length) (j := 0) (y_len (f := nV) (xs := r5) (r_fls z6) rfl) rfl) ?_
  obtain rfl := some_e e
  exact rfl
def tb1_law_map (first : ((Nat × (List (Nat × Nat))) × (List (List Nat)) × (List Nat))) (second : ((Nat × (List (Nat × Nat))) × (List (List Nat)) × (List Nat))) (q7 : (((List Int) × Nat × Nat × Nat × Bool × Nat × Nat) × (List Nat))) (i8 : Nat) : Option (Lp (((List Int) × Nat × Nat × Nat × Bool × Nat × Nat) × (List Nat)) ((List Nat) × ((List Int) × Nat × Nat × Nat × Bool × Nat × Nat))) :=
  gd ((first.2.2.take i8).length ≤ 400000) <|
  (lcO (fun y11 : Nat => (first.2.1[y11]?).bind fun v12 => (first.2.2[i8]?).bind fun v13 => (v12[v13]?).bind fun v14 => some (decide (v14 = 1))) (fun y11 : Nat => ((q7.2[y11]?).bind fun v15 => some v15 : Option Nat)) (first.2.2.take i8)).bind fun r17 =>
  gd (second.1.1 ≤ 400000) <|
  gd ((List.range second.1.1).length ≤ 400000) <|
  (lcO (fun q_20 : Nat => (t_law_bounds second r17 q_20).bind fun r21 => some r21) (fun q_20 : Nat => ( some q_20 : Option Nat)) (List.range second.1.1)).bind fun r24 =>
  if (decide (r24.length = 0)) = true then ((t_law_take q7.1 second.1.1).bind fun r26 =>
  gd (first.2.2.length ≤ 400000) <|
  some (.rt ((first.2.2.map (fun x29 : Nat => r26.1)), r26.2))) else ((t_law_take q7.1 r24.length).bind fun r31 =>
  (r24[r31.1]?).bind fun v34 =>
  (first.2.2[i8]?).bind fun v35 =>
  gd (v35 < q7.2.length) <|
  lett ((q7.2.set v35 v34) : (List Nat)) fun c38 =>
  some (.nx (r31.2, c38)))
def t_law_map (pool : ((List Int) × Nat × Nat × Nat × Bool × Nat × Nat)) (first : ((Nat × (List (Nat × Nat))) × (List (List Nat)) × (List Nat))) (second : ((Nat × (List (Nat × Nat))) × (List (List Nat)) × (List Nat))) : Option ((List Nat) × ((List Int) × Nat × Nat × Nat × Bool × Nat × Nat)) :=
  gd (first.2.2.length ≤ 400000) <|
  lett ((first.2.2.map (fun x1 : Nat => 0)) : (List Nat)) fun c5 =>
  gd (first.2.2.length ≤ 400000) <|
  lpB (forR (tb1_law_map first second) (List.range first.2.2.length) (pool, c5)) (fun q39 =>
  some (q39.2, q39.1)) (fun (r41 : ((List Nat) × ((List Int) × Nat × Nat × Nat × Bool × Nat × Nat))) => some r41)
theorem tt_law_map {h : MH} {pool : ((List Int) × Nat × Nat × Nat × Bool × Nat × Nat)} {l0 : Nat} {first : ((Nat × (List (Nat × Nat))) × (List (List Nat)) × (List Nat))} {l1 : Nat} {second : ((Nat × (List (Nat × Nat))) × (List (List Nat)) × (List Nat))} {l2 : Nat} {r : ((List Nat) × ((List Int) × Nat × Nat × Nat × Bool × Nat × Nat))} (w0 : h[l0]? = some (c_RX7cel_at_res_lef_odd_see_turFINNNBNN pool)) (w1 : h[l1]? = some (c_RX3ord_und_namP2NVP2NNFFNFN first)) (w2 : h[l2]? = some (c_RX3ord_und_namP2NVP2NNFFNFN second)) (n0_1 : l0 ≠ l1) (n0_2 : l0 ≠ l2) (e : t_law_map pool first second = some r) : f_law_map [.ref l0, .ref l1, .ref l2] h = ok (MV.tup (List.map nV r.1)) (h.set l0 (c_RX7cel_at_res_lef_odd_see_turFINNNBNN r.2)) := by
  unfold t_law_map at e
  obtain ⟨o, eo, h9, e9, fr9, w9_0⟩ : ∃ o, m_law_map [some (.ref l0), some (.ref l1), some (.ref l2), none, none, none, none, none, none, none, none, none] h = some o ∧ ∃ h9, defK (some o) = ok (MV.tup (List.map nV r.1)) h9 ∧ Fr h [l0] h9 ∧ h9[l0]? = some (c_RX7cel_at_res_lef_odd_see_turFINNNBNN r.2) := by
    unfold m_law_map
    have fr0 : Fr h [l0] h := Fr.refl
    refine W_seq (setS_ok (y_xget (r_var rfl) rfl w1 rfl rfl)) ?_
    obtain ⟨g_2, e⟩ := gd_e e
    obtain ⟨c5, h_c5, e⟩ := lett_e e
    obtain ⟨p3, q_p3⟩ : ∃ x : Nat, x = h.length := ⟨_, rfl⟩
    obtain ⟨h4, q_h4⟩ : ∃ x : MH, x = h ++ [(MO.lst (List.map nV c5))] := ⟨_, rfl⟩
    have n_p3_0 : l0 ≠ p3 := by rw [q_p3]; exact Nat.ne_of_lt (g_lt w0)
    have w_h4_0 : h4[l0]? = some (c_RX7cel_at_res_lef_odd_see_turFINNNBNN pool) := by rw [q_h4]; exact g_ap w0
    have n_p3_1 : l1 ≠ p3 := by rw [q_p3]; exact Nat.ne_of_lt (g_lt w1)
    have w_h4_1 : h4[l1]? = some (c_RX3ord_und_namP2NVP2NNFFNFN first) := by rw [q_h4]; exact g_ap w1
    have n_p3_2 : l2 ≠ p3 := by rw [q_p3]; exact Nat.ne_of_lt (g_lt w2)
    have w_h4_2 : h4[l2]? = some (c_RX3ord_und_namP2NVP2NNFFNFN second) := by rw [q_h4]; exact g_ap w2
    have w_h4_3 : h4[p3]? = some (MO.lst (List.map nV c5)) := by rw [q_h4]; exact g_nw q_p3
    have lo_p3 : h.length ≤ p3 := by rw [q_p3]; exact fr0.1
    have fr_h4 : Fr h [l0] h4 := by rw [q_h4]; exact fr0.app
    refine W_seq (setS_ok (y_ref (z_lcY (f := nV) (g := nV) (xs := first.2.2) (v := (fun x1 : Nat => 0)) (q_fls (r_var rfl)) g_2 (fun _ => rfl) (fun x1 => rfl)) q_p3 (Eq.trans q_h4 (congrArg (fun z => h ++ [(MO.lst (List.map nV z))]) h_c5)))) ?_
    obtain ⟨g_6, e⟩ := gd_e e
    refine W_joinB e (fun (q7 : (((List Int) × Nat × Nat × Nat × Bool × Nat × Nat) × (List Nat))) s9 h10 => s9 = [some (.ref l0), some (.ref l1), some (.ref l2), some (MV.fls (List.map nV first.2.2)), some (.ref p3), none, none, none, none, none, none, none] ∧ Fr h [l0] h10 ∧ h10[l0]? = some (c_RX7cel_at_res_lef_odd_see_turFINNNBNN q7.1) ∧ h10[l1]? = some (c_RX3ord_und_namP2NVP2NNFFNFN first) ∧ h10[l2]? = some (c_RX3ord_und_namP2NVP2NNFFNFN second) ∧ h10[p3]? = some (MO.lst (List.map nV q7.2))) (fun (r : ((List Nat) × ((List Int) × Nat × Nat × Nat × Bool × Nat × Nat))) v h9 => v = (MV.tup (List.map nV r.1)) ∧ Fr h [l0] h9 ∧ h9[l0]? = some (c_RX7cel_at_res_lef_odd_see_turFINNNBNN r.2)) (fun o e => W_jfor (e := nV) (xs := (List.range first.2.2.length)) (f := (tb1_law_map first second)) (fun (q7 : (((List Int) × Nat × Nat × Nat × Bool × Nat × Nat) × (List Nat))) s9 h10 => s9 = [some (.ref l0), some (.ref l1), some (.ref l2), some (MV.fls (List.map nV first.2.2)), some (.ref p3), none, none, none, none, none, none, none] ∧ Fr h [l0] h10 ∧ h10[l0]? = some (c_RX7cel_at_res_lef_odd_see_turFINNNBNN q7.1) ∧ h10[l1]? = some (c_RX3ord_und_namP2NVP2NNFFNFN first) ∧ h10[l2]? = some (c_RX3ord_und_namP2NVP2NNFFNFN second) ∧ h10[p3]? = some (MO.lst (List.map nV q7.2))) (fun (r : ((List Nat) × ((List Int) × Nat × Nat × Nat × Bool × Nat × Nat))) v h9 => v = (MV.tup (List.map nV r.1)) ∧ Fr h [l0] h9 ∧ h9[l0]? = some (c_RX7cel_at_res_lef_odd_see_turFINNNBNN r.2)) (q_rng (n := first.2.2.length) (y_len (f := nV) (xs := first.2.2) (r_var rfl) rfl) g_6) ⟨rfl, fr_h4, w_h4_0, w_h4_1, w_h4_2, w_h4_3⟩ e (fun q7 i8 s h10 o ra e => ?_)) ?_ ?_
    · obtain ⟨rfl, fr_h10, w_h10_0, w_h10_1, w_h10_2, w_h10_3⟩ := ra
      unfold tb1_law_map at e
      refine W_turn rfl ?_
      unfold b1_law_map
      refine W_wip' ?_
      obtain ⟨g_16, e⟩ := gd_e e
      obtain ⟨r17, b_r17, e⟩ := obind e
      have z18 : (lcM (seqI (sliT (varM 3) noO (someO (varM 6)))) [8] (one 8) (tstM (opM eqF (opM ixF (opM ixF (opM dgetF (varM 1) (cM (.str "under"))) (varM 8)) (opM ixF (varM 3) (varM 6))) (cM (.int 1)))) (opM ixF (varM 4) (varM 8))) [some (.ref l0), some (.ref l1), some (.ref l2), some (MV.fls (List.map nV first.2.2)), some (.ref p3), none, some (nV i8), none, none, none, none, none] h10 = ok (List.map nV r17) h10 := z_lcO (f := nV) (g := nV) (xs := (first.2.2.take i8)) (q_fls (y_sliF_t (f := nV) (xs := first.2.2) (r_var rfl) (r_var rfl))) g_16 (fun _ => rfl)
          (fun y11 b e => by
            obtain ⟨v12, b_v12, e⟩ := obind e
            obtain ⟨v13, b_v13, e⟩ := obind e
            obtain ⟨v14, b_v14, e⟩ := obind e
            obtain rfl := some_e e
            exact (r_tst (r_eq (i := v14) (j := 1) (y_ix (f := nV) (xs := v12) (i := v13) (y_ix (f := e_FN) (xs := first.2.1) (i := y11) (y_xget (r_var rfl) rfl w_h10_1 rfl rfl) (r_var rfl) rfl b_v12) (y_ix (f := nV) (xs := first.2.2) (i := i8) (r_var rfl) (r_var rfl) rfl b_v13) rfl b_v14) rfl)))
          (fun y11 y e => by
            obtain ⟨v15, b_v15, e⟩ := obind e
            obtain rfl := some_e e
            exact (y_ix (f := nV) (xs := q7.2) (i := y11) (r_var rfl) (r_var rfl) (sq_ref w_h10_3) b_v15)) b_r17
      refine W_seq (setS_ok (r_fls z18)) ?_
      obtain ⟨g_19, e⟩ := gd_e e
      obtain ⟨g_23, e⟩ := gd_e e
      obtain ⟨r24, b_r24, e⟩ := obind e
      have z25 : (lcM (rng1 (consA (opM ixF (opM dgetF (varM 2) (cM (.str "order"))) (cM (.int 0))) nilA)) [10] (one 10) (truM (callM f_law_bounds [] (consA (varM 2) (consA (varM 7) (consA (varM 10) nilA))))) (varM 10)) [some (.ref l0), some (.ref l1), some (.ref l2), some (MV.fls (List.map nV first.2.2)), some (.ref p3), none, some (nV i8), some (MV.fls (List.map nV r17)), none, none, none, none] h10 = ok (List.map nV r24) h10 := z_lcO (f := nV) (g := nV) (xs := (List.range second.1.1)) (q_rng (n := second.1.1) (r_ixt (i := 0) (y_xget (r_var rfl) rfl w_h10_2 rfl rfl) rfl rfl) g_19) g_23 (fun _ => rfl)
          (fun q_20 b e => by
            obtain ⟨r21, b_r21, e⟩ := obind e
            have c22 := tt_law_bounds (h := h10) w_h10_2 b_r21
            obtain rfl := some_e e
            exact (r_tru (callM_ok (consA_ok (r_var rfl) (consA_ok (r_var rfl) (consA_ok (r_var rfl) r_nil))) c22)))
          (fun q_20 y e => by
            obtain rfl := some_e e
            exact (r_var rfl)) b_r24
      refine W_seq (setS_ok (r_fls z25)) ?_
      rcases ite_e e with ⟨hc, e⟩ | ⟨hc, e⟩
      · refine W_st (r_tst (r_eq (i := r24.length) (j := 0) (y_len (f := nV) (xs := r24) (r_var rfl) rfl) rfl)) hc ?_
        refine W_as ?_
        obtain ⟨r26, b_r26, e⟩ := obind e
        have c27 := tt_law_take (h := h10) w_h10_0 b_r26
        obtain ⟨h28, q_h28⟩ : ∃ x : MH, x = h10.set l0 (c_RX7cel_at_res_lef_odd_see_turFINNNBNN r26.2) := ⟨_, rfl⟩
        have w_h28_0 : h28[l0]? = some (c_RX7cel_at_res_lef_odd_see_turFINNNBNN r26.2) := by rw [q_h28]; exact g_eq w_h10_0
        have w_h28_1 : h28[l1]? = some (c_RX3ord_und_namP2NVP2NNFFNFN first) := by rw [q_h28]; exact g_ne w_h10_1 n0_1
        have w_h28_2 : h28[l2]? = some (c_RX3ord_und_namP2NVP2NNFFNFN second) := by rw [q_h28]; exact g_ne w_h10_2 n0_2
        have w_h28_3 : h28[p3]? = some (MO.lst (List.map nV q7.2)) := by rw [q_h28]; exact g_ne w_h10_3 n_p3_0
        have fr_h28 : Fr h [l0] h28 := by rw [q_h28]; exact fr_h10.inn (by simp)
        rw [← q_h28] at c27
        refine W_seq (setS_ok (callM_ok (consA_ok (r_var rfl) (consA_ok (r_ixt (i := 0) (y_xget (r_var rfl) rfl w_h10_2 rfl rfl) rfl rfl) r_nil)) c27)) ?_
        obtain ⟨g_30, e⟩ := gd_e e
        refine W_sret (r_tupf (r_fls (z_lcY (f := nV) (g := nV) (xs := first.2.2) (v := (fun x29 : Nat => r26.1)) (q_fls (r_var rfl)) g_30 (fun _ => rfl) (fun x29 => (r_var rfl))))) ?_
        obtain rfl := some_e e
        exact ⟨_, rfl, _, _, rfl, ⟨rfl, fr_h28, w_h28_0⟩⟩
      · refine W_sf (r_tst (r_eq (i := r24.length) (j := 0) (y_len (f := nV) (xs := r24) (r_var rfl) rfl) rfl)) hc ?_
        refine W_nils ?_
        refine W_lst ?_
        obtain ⟨r31, b_r31, e⟩ := obind e
        have c32 := tt_law_take (h := h10) w_h10_0 b_r31
        obtain ⟨h33, q_h33⟩ : ∃ x : MH, x = h10.set l0 (c_RX7cel_at_res_lef_odd_see_turFINNNBNN r31.2) := ⟨_, rfl⟩
        have w_h33_0 : h33[l0]? = some (c_RX7cel_at_res_lef_odd_see_turFINNNBNN r31.2) := by rw [q_h33]; exact g_eq w_h10_0
        have w_h33_1 : h33[l1]? = some (c_RX3ord_und_namP2NVP2NNFFNFN first) := by rw [q_h33]; exact g_ne w_h10_1 n0_1
        have w_h33_2 : h33[l2]? = some (c_RX3ord_und_namP2NVP2NNFFNFN second) := by rw [q_h33]; exact g_ne w_h10_2 n0_2
        have w_h33_3 : h33[p3]? = some (MO.lst (List.map nV q7.2)) := by rw [q_h33]; exact g_ne w_h10_3 n_p3_0
        have fr_h33 : Fr h [l0] h33 := by rw [q_h33]; exact fr_h10.inn (by simp)
        rw [← q_h33] at c32
        obtain ⟨v34, b_v34, e⟩ := obind e
        obtain ⟨v35, b_v35, e⟩ := obind e
        obtain ⟨g_36, e⟩ := gd_e e
        obtain ⟨c38, h_c38, e⟩ := lett_e e
        obtain ⟨h37, q_h37⟩ : ∃ x : MH, x = h33.set p3 (MO.lst (List.map nV c38)) := ⟨_, rfl⟩
        have w_h37_0 : h37[l0]? = some (c_RX7cel_at_res_lef_odd_see_turFINNNBNN r31.2) := by rw [q_h37]; exact g_ne w_h33_0 (Ne.symm n_p3_0)
        have w_h37_1 : h37[l1]? = some (c_RX3ord_und_namP2NVP2NNFFNFN first) := by rw [q_h37]; exact g_ne w_h33_1 (Ne.symm n_p3_1)
        have w_h37_2 : h37[l2]? = some (c_RX3ord_und_namP2NVP2NNFFNFN second) := by rw [q_h37]; exact g_ne w_h33_2 (Ne.symm n_p3_2)
        have w_h37_3 : h37[p3]? = some (MO.lst (List.map nV c38)) := by rw [q_h37]; exact g_eq w_h33_3
        have fr_h37 : Fr h [l0] h37 := by rw [q_h37]; exact fr_h33.out lo_p3
        refine W_seq (y_put (f := nV) (xs := q7.2) (i := v35) (x := v34) (y_ix (f := nV) (xs := r24) (i := r31.1) (r_var rfl) (callM_ok (consA_ok (r_var rfl) (consA_ok (y_len (f := nV) (xs := r24) (r_var rfl) rfl) r_nil)) c32) rfl b_v34) (r_var rfl) (y_ix (f := nV) (xs := first.2.2) (i := i8) (r_var rfl) (r_var rfl) rfl b_v35) w_h33_3 g_36 (Eq.trans q_h37 (congrArg (fun z => List.set h33 p3 (MO.lst (List.map nV z))) h_c38))) ?_
        refine W_nil ?_
        obtain rfl := some_e e
        exact ⟨_, rfl, _, _, .inl rfl, ⟨rfl, fr_h37, w_h37_0, w_h37_1, w_h37_2, w_h37_3⟩⟩
    · rintro q39 _ h40 e ⟨rfl, fr_h40, w_h40_0, w_h40_1, w_h40_2, w_h40_3⟩
      refine W_ret (r_tupr (r_var rfl) w_h40_3) ?_
      obtain rfl := some_e e
      exact ⟨_, rfl, fr_h40, w_h40_0⟩
    · intro r41 v2 h2 e
      rintro ⟨rfl, fr9, w9_0⟩
      obtain rfl := some_e e
      exact ⟨_, rfl, fr9, w9_0⟩
  have ef : defM 3 12 m_law_map [.ref l0, .ref l1, .ref l2] h = ok (MV.tup (List.map nV r.1)) h9 := x_law_map.trans (by rw [eo]; exact e9)
  have := cut_fr ef fr9 ((fun (q : (List Nat)) => clo_V (f := nV) (fun _ => rfl)) r.1) (fun l hl => by rw [List.mem_singleton.mp hl]; exact ⟨_, w9_0, (and_i ((fun (q : (List Int)) => clo_F (f := MV.int) (fun _ => rfl)) r.2.1) (and_i ((fun _ => rfl) r.2.2.1) (and_i ((fun _ => rfl) r.2.2.2.1) (and_i ((fun _ => rfl) r.2.2.2.2.1) (and_i ((fun _ => rfl) r.2.2.2.2.2.1) (and_i ((fun _ => rfl) r.2.2.2.2.2.2.1) (and_i ((fun _ => rfl) r.2.2.2.2.2.2.2) (rfl))))))))⟩)
  rwa [fr9.to1 w9_0] at this
def tb1_law_rises (second : ((Nat × (List (Nat × Nat))) × (List (List Nat)) × (List Nat))) (row : (List Nat)) (q1 : Unit) (xy2 : (Nat × Nat)) : Option (Lp Unit Bool) :=
  (row[xy2.1]?).bind fun v5 =>
  (row[xy2.2]?).bind fun v6 =>
  (t_law_leq second v5 v6).bind fun r7 =>
  if (!r7) = true then (some (.rt false)) else (some (.nx ()))
def t_law_rises (first : ((Nat × (List (Nat × Nat))) × (List (List Nat)) × (List Nat))) (second : ((Nat × (List (Nat × Nat))) × (List (List Nat)) × (List Nat))) (row : (List Nat)) : Option Bool :=
  lpB (forR (tb1_law_rises second row) first.1.2 ()) (fun q9 =>
  some true) (fun (r10 : Bool) => some r10)
theorem tt_law_rises {h : MH} {first : ((Nat × (List (Nat × Nat))) × (List (List Nat)) × (List Nat))} {l0 : Nat} {second : ((Nat × (List (Nat × Nat))) × (List (List Nat)) × (List Nat))} {l1 : Nat} {row : (List Nat)} {r : Bool} (w0 : h[l0]? = some (c_RX3ord_und_namP2NVP2NNFFNFN first)) (w1 : h[l1]? = some (c_RX3ord_und_namP2NVP2NNFFNFN second)) (e : t_law_rises first second row = some r) : f_law_rises [.ref l0, .ref l1, (MV.tup (List.map nV row))] h = ok (MV.bl r) h := by
  unfold t_law_rises at e
  refine x_law_rises.trans (fn_go ?_)
  unfold m_law_rises
  refine W_joinB e (fun (q1 : Unit) s3 h4 => s3 = [some (.ref l0), some (.ref l1), some (MV.tup (List.map nV row)), none, none] ∧ h = h4) (fun (r : Bool) v h9 => v = (MV.bl r) ∧ h = h9) (fun o e => W_jfor (e := prV) (xs := first.1.2) (f := (tb1_law_rises second row)) (fun (q1 : Unit) s3 h4 => s3 = [some (.ref l0), some (.ref l1), some (MV.tup (List.map nV row)), none, none] ∧ h = h4) (fun (r : Bool) v h9 => v = (MV.bl r) ∧ h = h9) (q_tup (r_ixt (i := 1) (y_xget (r_var rfl) rfl w0 rfl rfl) rfl rfl)) ⟨rfl, rfl⟩ e (fun q1 xy2 s h4 o ra e => ?_)) ?_ ?_
  · obtain ⟨rfl, rfl⟩ := ra
    unfold tb1_law_rises at e
    refine W_turn rfl ?_
    unfold b1_law_rises
    refine W_wip' ?_
    obtain ⟨v5, b_v5, e⟩ := obind e
    obtain ⟨v6, b_v6, e⟩ := obind e
    obtain ⟨r7, b_r7, e⟩ := obind e
    have c8 := tt_law_leq (h := h) w1 b_r7
    rcases ite_e e with ⟨hc, e⟩ | ⟨hc, e⟩
    · refine W_t (r_not (r_tru (callM_ok (consA_ok (r_var rfl) (consA_ok (y_ix (f := nV) (xs := row) (i := xy2.1) (r_var rfl) (r_var rfl) rfl b_v5) (consA_ok (y_ix (f := nV) (xs := row) (i := xy2.2) (r_var rfl) (r_var rfl) rfl b_v6) r_nil))) c8))) hc ?_
      refine W_ret rfl ?_
      obtain rfl := some_e e
      exact ⟨_, rfl, _, _, rfl, ⟨rfl, rfl⟩⟩
    · refine W_f (r_not (r_tru (callM_ok (consA_ok (r_var rfl) (consA_ok (y_ix (f := nV) (xs := row) (i := xy2.1) (r_var rfl) (r_var rfl) rfl b_v5) (consA_ok (y_ix (f := nV) (xs := row) (i := xy2.2) (r_var rfl) (r_var rfl) rfl b_v6) r_nil))) c8))) hc ?_
      refine W_nil ?_
      obtain rfl := some_e e
      exact ⟨_, rfl, _, _, .inl rfl, ⟨rfl, rfl⟩⟩
  · rintro q9 _ _ e ⟨rfl, rfl⟩
    refine W_ret rfl ?_
    obtain rfl := some_e e
    exact rfl
  · intro r10 v2 h2 e
    rintro ⟨rfl, rfl⟩
    obtain rfl := some_e e
    exact rfl
def tb1_law_moved (first : ((Nat × (List (Nat × Nat))) × (List (List Nat)) × (List Nat))) (second : ((Nat × (List (Nat × Nat))) × (List (List Nat)) × (List Nat))) (row : (List Nat)) (up : Bool) (q6 : ((List Nat) × ((List Int) × Nat × Nat × Nat × Bool × Nat × Nat))) (turn7 : Nat) : Option ((List Nat) × ((List Int) × Nat × Nat × Nat × Bool × Nat × Nat)) :=
  (t_law_take q6.2 row.length).bind fun r10 =>
  (t_law_take r10.2 second.1.1).bind fun r13 =>
  gd ((q6.1.take r10.1).length + [r13.1].length ≤ 400000) <|
  gd (((q6.1.take r10.1) ++ [r13.1]).length + (q6.1.drop (r10.1 + 1)).length ≤ 400000) <|
  lett ((((q6.1.take r10.1) ++ [r13.1]) ++ (q6.1.drop (r10.1 + 1))) : (List Nat)) fun other18 =>
  (q6.1[r10.1]?).bind fun v19 =>
  (q6.1[r10.1]?).bind fun v20 =>
  ([[r13.1, v19], [v20, r13.1]][(up).toNat]?).bind fun v21 =>
  (v21[0]?).bind fun v22 =>
  (v21[1]?).bind fun v23 =>
  (t_law_leq second v22 v23).bind fun r24 =>
  (if r24 = true then ((t_law_rises first second other18).bind fun r26 => some r26) else (some false)).bind fun c28 =>
  if c28 = true then (some (other18, r13.2)) else (some (q6.1, r13.2))
def t_law_moved (pool : ((List Int) × Nat × Nat × Nat × Bool × Nat × Nat)) (first : ((Nat × (List (Nat × Nat))) × (List (List Nat)) × (List Nat))) (second : ((Nat × (List (Nat × Nat))) × (List (List Nat)) × (List Nat))) (row : (List Nat)) (up : Bool) : Option ((List Nat) × ((List Int) × Nat × Nat × Nat × Bool × Nat × Nat)) :=
  (t_law_take pool 8).bind fun r1 =>
  gd (mulOk (r1.1 : Nat) (((decide (0 < row.length))).toNat : Nat)) <|
  gd ((r1.1 * ((decide (0 < row.length))).toNat) ≤ 400000) <|
  (forO (tb1_law_moved first second row up) (List.range (r1.1 * ((decide (0 < row.length))).toNat)) (row, r1.2)).bind fun q30 =>
  some (q30.1, q30.2)
theorem tt_law_moved {h : MH} {pool : ((List Int) × Nat × Nat × Nat × Bool × Nat × Nat)} {l0 : Nat} {first : ((Nat × (List (Nat × Nat))) × (List (List Nat)) × (List Nat))} {l1 : Nat} {second : ((Nat × (List (Nat × Nat))) × (List (List Nat)) × (List Nat))} {l2 : Nat} {row : (List Nat)} {up : Bool} {r : ((List Nat) × ((List Int) × Nat × Nat × Nat × Bool × Nat × Nat))} (w0 : h[l0]? = some (c_RX7cel_at_res_lef_odd_see_turFINNNBNN pool)) (w1 : h[l1]? = some (c_RX3ord_und_namP2NVP2NNFFNFN first)) (w2 : h[l2]? = some (c_RX3ord_und_namP2NVP2NNFFNFN second)) (n0_1 : l0 ≠ l1) (n0_2 : l0 ≠ l2) (e : t_law_moved pool first second row up = some r) : f_law_moved [.ref l0, .ref l1, .ref l2, (MV.tup (List.map nV row)), (MV.bl up)] h = ok (MV.tup (List.map nV r.1)) (h.set l0 (c_RX7cel_at_res_lef_odd_see_turFINNNBNN r.2)) := by
  unfold t_law_moved at e
  obtain ⟨o, eo, h9, e9, fr9, ln9, w9_0⟩ : ∃ o, m_law_moved [some (.ref l0), some (.ref l1), some (.ref l2), some ((MV.tup (List.map nV row))), some ((MV.bl up)), none, none, none, none, none, none] h = some o ∧ ∃ h9, defK (some o) = ok (MV.tup (List.map nV r.1)) h9 ∧ Fr h [l0] h9 ∧ h9.length = h.length ∧ h9[l0]? = some (c_RX7cel_at_res_lef_odd_see_turFINNNBNN r.2) := by
    unfold m_law_moved
    have fr0 : Fr h [l0] h := Fr.refl
    have ln0 : h.length = h.length := rfl
    refine W_seq (setS_ok (y_len (f := nV) (xs := row) (r_var rfl) rfl)) ?_
    obtain ⟨r1, b_r1, e⟩ := obind e
    have c2 := tt_law_take (h := h) w0 b_r1
    obtain ⟨h3, q_h3⟩ : ∃ x : MH, x = h.set l0 (c_RX7cel_at_res_lef_odd_see_turFINNNBNN r1.2) := ⟨_, rfl⟩
    have w_h3_0 : h3[l0]? = some (c_RX7cel_at_res_lef_odd_see_turFINNNBNN r1.2) := by rw [q_h3]; exact g_eq w0
    have w_h3_1 : h3[l1]? = some (c_RX3ord_und_namP2NVP2NNFFNFN first) := by rw [q_h3]; exact g_ne w1 n0_1
    have w_h3_2 : h3[l2]? = some (c_RX3ord_und_namP2NVP2NNFFNFN second) := by rw [q_h3]; exact g_ne w2 n0_2
    have fr_h3 : Fr h [l0] h3 := by rw [q_h3]; exact fr0.inn (by simp)
    have ln_h3 : h3.length = h.length := by rw [q_h3, List.length_set, ln0]
    rw [← q_h3] at c2
    obtain ⟨g_4, e⟩ := gd_e e
    obtain ⟨g_5, e⟩ := gd_e e
    obtain ⟨q30, b_q30, e⟩ := obind e
    refine W_forO (e := nV) (xs := (List.range (r1.1 * ((decide (0 < row.length))).toNat))) (f := (tb1_law_moved first second row up)) (fun (q6 : ((List Nat) × ((List Int) × Nat × Nat × Nat × Bool × Nat × Nat))) s8 h9 => s8 = [some (.ref l0), some (.ref l1), some (.ref l2), some (MV.tup (List.map nV q6.1)), some (MV.bl up), some (nV row.length), none, none, none, none, none] ∧ Fr h [l0] h9 ∧ h9.length = h.length ∧ h9[l0]? = some (c_RX7cel_at_res_lef_odd_see_turFINNNBNN q6.2) ∧ h9[l1]? = some (c_RX3ord_und_namP2NVP2NNFFNFN first) ∧ h9[l2]? = some (c_RX3ord_und_namP2NVP2NNFFNFN second)) (q_rng (n := (r1.1 * ((decide (0 < row.length))).toNat)) (n_mul (i := r1.1) (j := ((decide (0 < row.length))).toNat) (callM_ok (consA_ok (r_var rfl) (consA_ok rfl r_nil)) c2) (y_intB (r_gt (i := row.length) (j := 0) (r_var rfl) rfl)) g_4) g_5) ⟨rfl, fr_h3, ln_h3, w_h3_0, w_h3_1, w_h3_2⟩ b_q30 (fun q6 turn7 s h9 b ra e => ?_) ?_
    · obtain ⟨rfl, fr_h9, ln_h9, w_h9_0, w_h9_1, w_h9_2⟩ := ra
      unfold tb1_law_moved at e
      refine W_turn rfl ?_
      unfold b1_law_moved
      refine W_wip' ?_
      obtain ⟨r10, b_r10, e⟩ := obind e
      have c11 := tt_law_take (h := h9) w_h9_0 b_r10
      obtain ⟨h12, q_h12⟩ : ∃ x : MH, x = h9.set l0 (c_RX7cel_at_res_lef_odd_see_turFINNNBNN r10.2) := ⟨_, rfl⟩
      have w_h12_0 : h12[l0]? = some (c_RX7cel_at_res_lef_odd_see_turFINNNBNN r10.2) := by rw [q_h12]; exact g_eq w_h9_0
      have w_h12_1 : h12[l1]? = some (c_RX3ord_und_namP2NVP2NNFFNFN first) := by rw [q_h12]; exact g_ne w_h9_1 n0_1
      have w_h12_2 : h12[l2]? = some (c_RX3ord_und_namP2NVP2NNFFNFN second) := by rw [q_h12]; exact g_ne w_h9_2 n0_2
      have fr_h12 : Fr h [l0] h12 := by rw [q_h12]; exact fr_h9.inn (by simp)
      have ln_h12 : h12.length = h.length := by rw [q_h12, List.length_set, ln_h9]
      rw [← q_h12] at c11
      refine W_seq (setS_ok (callM_ok (consA_ok (r_var rfl) (consA_ok (r_var rfl) r_nil)) c11)) ?_
      obtain ⟨r13, b_r13, e⟩ := obind e
      have c14 := tt_law_take (h := h12) w_h12_0 b_r13
      obtain ⟨h15, q_h15⟩ : ∃ x : MH, x = h12.set l0 (c_RX7cel_at_res_lef_odd_see_turFINNNBNN r13.2) := ⟨_, rfl⟩
      have w_h15_0 : h15[l0]? = some (c_RX7cel_at_res_lef_odd_see_turFINNNBNN r13.2) := by rw [q_h15]; exact g_eq w_h12_0
      have w_h15_1 : h15[l1]? = some (c_RX3ord_und_namP2NVP2NNFFNFN first) := by rw [q_h15]; exact g_ne w_h12_1 n0_1
      have w_h15_2 : h15[l2]? = some (c_RX3ord_und_namP2NVP2NNFFNFN second) := by rw [q_h15]; exact g_ne w_h12_2 n0_2
      have fr_h15 : Fr h [l0] h15 := by rw [q_h15]; exact fr_h12.inn (by simp)
      have ln_h15 : h15.length = h.length := by rw [q_h15, List.length_set, ln_h12]
      rw [← q_h15] at c14
      refine W_seq (setS_ok (callM_ok (consA_ok (r_var rfl) (consA_ok (r_ixt (i := 0) (y_xget (r_var rfl) rfl w_h12_2 rfl rfl) rfl rfl) r_nil)) c14)) ?_
      obtain ⟨g_16, e⟩ := gd_e e
      obtain ⟨g_17, e⟩ := gd_e e
      obtain ⟨other18, h_other18, e⟩ := lett_e e
      refine W_seq (setS_ok (ok_lt (f := e_VN) h_other18 (y_tcat (f := nV) (xs := ((q6.1.take r10.1) ++ [r13.1])) (ys := (q6.1.drop (r10.1 + 1))) (y_tcat (f := nV) (xs := (q6.1.take r10.1)) (ys := [r13.1]) (y_sliT_t (f := nV) (xs := q6.1) (r_var rfl) (r_var rfl)) (tupM_ok (consA_ok (r_var rfl) r_nil) (by show 1 ≤ 1000; omega)) g_16) (y_sliT_d (f := nV) (xs := q6.1) (r_var rfl) (r_add (i := r10.1) (j := 1) (r_var rfl) rfl)) g_17))) ?_
      obtain ⟨v19, b_v19, e⟩ := obind e
      obtain ⟨v20, b_v20, e⟩ := obind e
      obtain ⟨v21, b_v21, e⟩ := obind e
      refine W_seq (setS_ok (y_ix (f := e_FN) (xs := [[r13.1, v19], [v20, r13.1]]) (i := (up).toNat) (r_fls (r_lst (consA_ok (r_fls (r_lst (consA_ok (r_var rfl) (consA_ok (y_ix (f := nV) (xs := q6.1) (i := r10.1) (r_var rfl) (r_var rfl) rfl b_v19) r_nil)) (by show 2 ≤ 400000; omega))) (consA_ok (r_fls (r_lst (consA_ok (y_ix (f := nV) (xs := q6.1) (i := r10.1) (r_var rfl) (r_var rfl) rfl b_v20) (consA_ok (r_var rfl) r_nil)) (by show 2 ≤ 400000; omega))) r_nil)) (by show 2 ≤ 400000; omega))) (y_intB (r_var rfl)) rfl b_v21)) ?_
      obtain ⟨v22, b_v22, e⟩ := obind e
      obtain ⟨v23, b_v23, e⟩ := obind e
      obtain ⟨r24, b_r24, e⟩ := obind e
      have c25 := tt_law_leq (h := h15) w_h15_2 b_r24
      obtain ⟨c28, b_c28, e⟩ := obind e
      have a29 : (andT (truM (callM f_law_leq [] (consA (varM 2) (consA (opM ixF (varM 10) (cM (.int 0))) (consA (opM ixF (varM 10) (cM (.int 1))) nilA))))) (truM (callM f_law_rises [] (consA (varM 1) (consA (varM 2) (consA (varM 9) nilA)))))) [some (.ref l0), some (.ref l1), some (.ref l2), some (MV.tup (List.map nV q6.1)), some (MV.bl up), some (nV row.length), some (nV turn7), some (nV r10.1), some (nV r13.1), some (MV.tup (List.map nV other18)), some (MV.fls (List.map nV v21))] h15 = ok c28 h15 := by
        rcases ite_e b_c28 with ⟨hc, e⟩ | ⟨hc, e⟩
        · skip
          obtain ⟨r26, b_r26, e⟩ := obind e
          have c27 := tt_law_rises (h := h15) w_h15_1 w_h15_2 b_r26
          obtain rfl := some_e e
          exact y_andTt (r_tru (callM_ok (consA_ok (r_var rfl) (consA_ok (y_ix (f := nV) (xs := v21) (i := 0) (r_var rfl) rfl rfl b_v22) (consA_ok (y_ix (f := nV) (xs := v21) (i := 1) (r_var rfl) rfl rfl b_v23) r_nil))) c25)) hc (r_tru (callM_ok (consA_ok (r_var rfl) (consA_ok (r_var rfl) (consA_ok (r_var rfl) r_nil))) c27))
        · skip
          obtain rfl := some_e e
          exact y_andTf (r_tru (callM_ok (consA_ok (r_var rfl) (consA_ok (y_ix (f := nV) (xs := v21) (i := 0) (r_var rfl) rfl rfl b_v22) (consA_ok (y_ix (f := nV) (xs := v21) (i := 1) (r_var rfl) rfl rfl b_v23) r_nil))) c25)) hc
      rcases ite_e e with ⟨hc, e⟩ | ⟨hc, e⟩
      · refine W_t a29 hc ?_
        refine W_lst ?_
        refine W_seq (setS_ok (r_var rfl)) ?_
        refine W_nil ?_
        obtain rfl := some_e e
        exact ⟨_, rfl, _, _, .inl rfl, ⟨rfl, fr_h15, ln_h15, w_h15_0, w_h15_1, w_h15_2⟩⟩
      · refine W_f a29 hc ?_
        refine W_nil ?_
        obtain rfl := some_e e
        exact ⟨_, rfl, _, _, .inl rfl, ⟨rfl, fr_h15, ln_h15, w_h15_0, w_h15_1, w_h15_2⟩⟩
    rintro _ h31 ⟨rfl, fr_h31, ln_h31, w_h31_0, w_h31_1, w_h31_2⟩
    refine W_ret (r_var rfl) ?_
    obtain rfl := some_e e
    exact ⟨_, rfl, fr_h31, ln_h31, w_h31_0⟩
  have hh : h9 = (h.set l0 (c_RX7cel_at_res_lef_odd_see_turFINNNBNN r.2)) := fr9.e1 ln9 w9_0
  rw [← hh]
  exact x_law_moved.trans (by rw [eo]; exact e9)
def tb2_law_sizes (q27 : (List Nat)) (k28 : Nat) : Option (List Nat) :=
  gd (k28 < q27.length) <|
  lett ((q27.set k28 0) : (List Nat)) fun c33 =>
  some c33
def t_law_sizes (pool : ((List Int) × Nat × Nat × Nat × Bool × Nat × Nat)) : Option ((List Nat) × ((List Int) × Nat × Nat × Nat × Bool × Nat × Nat)) :=
  gd ((List.range 4).length ≤ 400000) <|
  (lcW (fun (q6 : ((List Int) × Nat × Nat × Nat × Bool × Nat × Nat)) (k1 : Nat) => ((t_law_take q6 7).bind fun r8 => some (some (1 + r8.1), r8.2) : Option (Option Nat × ((List Int) × Nat × Nat × Nat × Bool × Nat × Nat)))) (List.range 4) pool).bind fun r11 =>
  (t_law_take r11.2 8).bind fun r16 =>
  (if (decide (r16.1 = 0)) = true then ((t_law_take r16.2 3).bind fun r23 =>
  gd ((1 + r23.1) ≤ 400000) <|
  (forO tb2_law_sizes (List.range (1 + r23.1)) r11.1).bind fun q34 =>
  some (r23.2, q34)) else (some (r16.2, r11.1)) : Option (((List Int) × Nat × Nat × Nat × Bool × Nat × Nat) × (List Nat))).bind fun j19 =>
  some (j19.2, j19.1)
theorem tt_law_sizes {h : MH} {pool : ((List Int) × Nat × Nat × Nat × Bool × Nat × Nat)} {l0 : Nat} {r : ((List Nat) × ((List Int) × Nat × Nat × Nat × Bool × Nat × Nat))} (w0 : h[l0]? = some (c_RX7cel_at_res_lef_odd_see_turFINNNBNN pool)) (e : t_law_sizes pool = some r) : f_law_sizes [.ref l0] h = ok (MV.fls (List.map nV r.1)) (h.set l0 (c_RX7cel_at_res_lef_odd_see_turFINNNBNN r.2)) := by
  unfold t_law_sizes at e
  obtain ⟨o, eo, h9, e9, fr9, w9_0⟩ : ∃ o, m_law_sizes [some (.ref l0), none, none] h = some o ∧ ∃ h9, defK (some o) = ok (MV.fls (List.map nV r.1)) h9 ∧ Fr h [l0] h9 ∧ h9[l0]? = some (c_RX7cel_at_res_lef_odd_see_turFINNNBNN r.2) := by
    unfold m_law_sizes
    have fr0 : Fr h [l0] h := Fr.refl
    obtain ⟨g_5, e⟩ := gd_e e
    obtain ⟨r11, b_r11, e⟩ := obind e
    obtain ⟨h12, z13, fr_h12, w_h12_0⟩ : ∃ h12, (lcM (rng1 (consA (cM (.int 4)) nilA)) [2] (one 2) yesT (opM addF (cM (.int 1)) (callM f_law_take [] (consA (varM 0) (consA (cM (.int 7)) nilA))))) [some (.ref l0), none, none] h = ok (List.map nV r11.1) h12 ∧ Fr h [l0] h12 ∧ h12[l0]? = some (c_RX7cel_at_res_lef_odd_see_turFINNNBNN r11.2) := by
      refine z_lcW (f := nV) (g := nV) (xs := (List.range 4)) (fun (q6 : ((List Int) × Nat × Nat × Nat × Bool × Nat × Nat)) (h7 : MH) => Fr h [l0] h7 ∧ h7[l0]? = some (c_RX7cel_at_res_lef_odd_see_turFINNNBNN q6)) (q_rng (n := 4) rfl (by omega)) g_5 (fun _ => rfl) (fun q6 k1 h7 o ra e => ?_) ⟨fr0, w0⟩ b_r11
      obtain ⟨fr_h7, w_h7_0⟩ := ra
      obtain ⟨r8, b_r8, e⟩ := obind e
      have c9 := tt_law_take (h := h7) w_h7_0 b_r8
      obtain ⟨h10, q_h10⟩ : ∃ x : MH, x = h7.set l0 (c_RX7cel_at_res_lef_odd_see_turFINNNBNN r8.2) := ⟨_, rfl⟩
      have w_h10_0 : h10[l0]? = some (c_RX7cel_at_res_lef_odd_see_turFINNNBNN r8.2) := by rw [q_h10]; exact g_eq w_h7_0
      have fr_h10 : Fr h [l0] h10 := by rw [q_h10]; exact fr_h7.inn (by simp)
      rw [← q_h10] at c9
      obtain rfl := some_e e
      exact ⟨_, _, ⟨_, rfl, rfl, (r_add (i := 1) (j := r8.1) rfl (callM_ok (consA_ok (r_var rfl) (consA_ok rfl r_nil)) c9))⟩, ⟨fr_h10, w_h10_0⟩⟩
    obtain ⟨p14, q_p14⟩ : ∃ x : Nat, x = h12.length := ⟨_, rfl⟩
    obtain ⟨h15, q_h15⟩ : ∃ x : MH, x = h12 ++ [(MO.lst (List.map nV r11.1))] := ⟨_, rfl⟩
    have n_p14_0 : l0 ≠ p14 := by rw [q_p14]; exact Nat.ne_of_lt (g_lt w_h12_0)
    have w_h15_0 : h15[l0]? = some (c_RX7cel_at_res_lef_odd_see_turFINNNBNN r11.2) := by rw [q_h15]; exact g_ap w_h12_0
    have w_h15_1 : h15[p14]? = some (MO.lst (List.map nV r11.1)) := by rw [q_h15]; exact g_nw q_p14
    have lo_p14 : h.length ≤ p14 := by rw [q_p14]; exact fr_h12.1
    have fr_h15 : Fr h [l0] h15 := by rw [q_h15]; exact fr_h12.app
    refine W_seq (setS_ok (y_ref z13 q_p14 q_h15)) ?_
    obtain ⟨r16, b_r16, e⟩ := obind e
    have c17 := tt_law_take (h := h15) w_h15_0 b_r16
    obtain ⟨h18, q_h18⟩ : ∃ x : MH, x = h15.set l0 (c_RX7cel_at_res_lef_odd_see_turFINNNBNN r16.2) := ⟨_, rfl⟩
    have w_h18_0 : h18[l0]? = some (c_RX7cel_at_res_lef_odd_see_turFINNNBNN r16.2) := by rw [q_h18]; exact g_eq w_h15_0
    have w_h18_1 : h18[p14]? = some (MO.lst (List.map nV r11.1)) := by rw [q_h18]; exact g_ne w_h15_1 n_p14_0
    have fr_h18 : Fr h [l0] h18 := by rw [q_h18]; exact fr_h15.inn (by simp)
    rw [← q_h18] at c17
    obtain ⟨j19, b_j19, e⟩ := obind e
    refine W_join (Q := fun s21 h22 => s21 = [some (.ref l0), some (.ref p14), none] ∧ Fr h [l0] h22 ∧ h22[l0]? = some (c_RX7cel_at_res_lef_odd_see_turFINNNBNN j19.1) ∧ h22[p14]? = some (MO.lst (List.map nV j19.2))) ?_ ?_
    · rcases ite_e b_j19 with ⟨hc, e⟩ | ⟨hc, e⟩
      · refine W_t (r_tst (r_eq (i := r16.1) (j := 0) (callM_ok (consA_ok (r_var rfl) (consA_ok rfl r_nil)) c17) rfl)) hc ?_
        refine W_lst ?_
        obtain ⟨r23, b_r23, e⟩ := obind e
        have c24 := tt_law_take (h := h18) w_h18_0 b_r23
        obtain ⟨h25, q_h25⟩ : ∃ x : MH, x = h18.set l0 (c_RX7cel_at_res_lef_odd_see_turFINNNBNN r23.2) := ⟨_, rfl⟩
        have w_h25_0 : h25[l0]? = some (c_RX7cel_at_res_lef_odd_see_turFINNNBNN r23.2) := by rw [q_h25]; exact g_eq w_h18_0
        have w_h25_1 : h25[p14]? = some (MO.lst (List.map nV r11.1)) := by rw [q_h25]; exact g_ne w_h18_1 n_p14_0
        have fr_h25 : Fr h [l0] h25 := by rw [q_h25]; exact fr_h18.inn (by simp)
        rw [← q_h25] at c24
        obtain ⟨g_26, e⟩ := gd_e e
        obtain ⟨q34, b_q34, e⟩ := obind e
        refine W_forO (e := nV) (xs := (List.range (1 + r23.1))) (f := tb2_law_sizes) (fun (q27 : (List Nat)) s29 h30 => s29 = [some (.ref l0), some (.ref p14), none] ∧ Fr h [l0] h30 ∧ h30[l0]? = some (c_RX7cel_at_res_lef_odd_see_turFINNNBNN r23.2) ∧ h30[p14]? = some (MO.lst (List.map nV q27))) (q_rng (n := (1 + r23.1)) (r_add (i := 1) (j := r23.1) rfl (callM_ok (consA_ok (r_var rfl) (consA_ok rfl r_nil)) c24)) g_26) ⟨rfl, fr_h25, w_h25_0, w_h25_1⟩ b_q34 (fun q27 k28 s h30 b ra e => ?_) ?_
        · obtain ⟨rfl, fr_h30, w_h30_0, w_h30_1⟩ := ra
          unfold tb2_law_sizes at e
          refine W_turn rfl ?_
          unfold b1_law_sizes
          refine W_wip' ?_
          refine W_lst ?_
          obtain ⟨g_31, e⟩ := gd_e e
          obtain ⟨c33, h_c33, e⟩ := lett_e e
          obtain ⟨h32, q_h32⟩ : ∃ x : MH, x = h30.set p14 (MO.lst (List.map nV c33)) := ⟨_, rfl⟩
          have w_h32_0 : h32[l0]? = some (c_RX7cel_at_res_lef_odd_see_turFINNNBNN r23.2) := by rw [q_h32]; exact g_ne w_h30_0 (Ne.symm n_p14_0)
          have w_h32_1 : h32[p14]? = some (MO.lst (List.map nV c33)) := by rw [q_h32]; exact g_eq w_h30_1
          have fr_h32 : Fr h [l0] h32 := by rw [q_h32]; exact fr_h30.out lo_p14
          refine W_seq (y_put (f := nV) (xs := q27) (i := k28) (x := 0) rfl (r_var rfl) (r_var rfl) w_h30_1 g_31 (Eq.trans q_h32 (congrArg (fun z => List.set h30 p14 (MO.lst (List.map nV z))) h_c33))) ?_
          refine W_nil ?_
          obtain rfl := some_e e
          exact ⟨_, rfl, _, _, .inl rfl, ⟨rfl, fr_h32, w_h32_0, w_h32_1⟩⟩
        rintro _ h35 ⟨rfl, fr_h35, w_h35_0, w_h35_1⟩
        refine W_nil ?_
        obtain rfl := some_e e
        exact ⟨_, _, rfl, rfl, fr_h35, w_h35_0, w_h35_1⟩
      · refine W_f (r_tst (r_eq (i := r16.1) (j := 0) (callM_ok (consA_ok (r_var rfl) (consA_ok rfl r_nil)) c17) rfl)) hc ?_
        refine W_nil ?_
        obtain rfl := some_e e
        exact ⟨_, _, rfl, rfl, fr_h18, w_h18_0, w_h18_1⟩
    rintro _ h20 ⟨rfl, fr_h20, w_h20_0, w_h20_1⟩
    obtain ⟨h36, q_h36⟩ : ∃ x : MH, x = h20.set p14 MO.dead := ⟨_, rfl⟩
    have w_h36_0 : h36[l0]? = some (c_RX7cel_at_res_lef_odd_see_turFINNNBNN j19.1) := by rw [q_h36]; exact g_ne w_h20_0 (Ne.symm n_p14_0)
    have fr_h36 : Fr h [l0] h36 := by rw [q_h36]; exact fr_h20.out lo_p14
    refine W_ret (y_frz (r_var rfl) w_h20_1 (all_flat (f := nV) (fun _ => rfl)) q_h36) ?_
    obtain rfl := some_e e
    exact ⟨_, rfl, fr_h36, w_h36_0⟩
  have ef : defM 1 3 m_law_sizes [.ref l0] h = ok (MV.fls (List.map nV r.1)) h9 := x_law_sizes.trans (by rw [eo]; exact e9)
  have := cut_fr ef fr9 ((fun (q : (List Nat)) => clo_F (f := nV) (fun _ => rfl)) r.1) (fun l hl => by rw [List.mem_singleton.mp hl]; exact ⟨_, w9_0, (and_i ((fun (q : (List Int)) => clo_F (f := MV.int) (fun _ => rfl)) r.2.1) (and_i ((fun _ => rfl) r.2.2.1) (and_i ((fun _ => rfl) r.2.2.2.1) (and_i ((fun _ => rfl) r.2.2.2.2.1) (and_i ((fun _ => rfl) r.2.2.2.2.2.1) (and_i ((fun _ => rfl) r.2.2.2.2.2.2.1) (and_i ((fun _ => rfl) r.2.2.2.2.2.2.2) (rfl))))))))⟩)
  rwa [fr9.to1 w9_0] at this
def t_identity_map (order : (Nat × (List (Nat × Nat)))) : Option (List Nat) :=
  gd (order.1 ≤ 400000) <|
  some (List.range order.1)
theorem tt_identity_map {h : MH} {order : (Nat × (List (Nat × Nat)))} {r : (List Nat)}  (e : t_identity_map order = some r) : f_identity_map [(MV.tup [(nV order.1), (MV.tup (List.map prV order.2))])] h = ok (MV.tup (List.map nV r)) h := by
  unfold t_identity_map at e
  refine x_identity_map.trans (fn_go ?_)
  unfold m_identity_map
  obtain ⟨g_1, e⟩ := gd_e e
  refine W_ret (y_rngT (r_ixt (i := 0) (r_var rfl) rfl rfl) g_1) ?_
  obtain rfl := some_e e
  exact rfl
def t_compose (row : (List Nat)) (after : (List Nat)) : Option (List Nat) :=
  gd (row.length ≤ 400000) <|
  (lcO (fun value1 : Nat =>  some true) (fun value1 : Nat => ((after[value1]?).bind fun v2 => some v2 : Option Nat)) row).bind fun r4 =>
  some r4
theorem tt_compose {h : MH} {row : (List Nat)} {after : (List Nat)} {r : (List Nat)}  (e : t_compose row after = some r) : f_compose [(MV.tup (List.map nV row)), (MV.tup (List.map nV after))] h = ok (MV.tup (List.map nV r)) h := by
  unfold t_compose at e
  refine x_compose.trans (fn_go ?_)
  unfold m_compose
  obtain ⟨g_3, e⟩ := gd_e e
  obtain ⟨r4, b_r4, e⟩ := obind e
  have z5 : (lcM (seqI (varM 0)) [2] (one 2) yesT (opM ixF (varM 1) (varM 2))) [some (MV.tup (List.map nV row)), some (MV.tup (List.map nV after)), none] h = ok (List.map nV r4) h := z_lcO (f := nV) (g := nV) (xs := row) (q_tup (r_var rfl)) g_3 (fun _ => rfl)
      (fun value1 b e => by
        obtain rfl := some_e e
        exact rfl)
      (fun value1 y e => by
        obtain ⟨v2, b_v2, e⟩ := obind e
        obtain rfl := some_e e
        exact (y_ix (f := nV) (xs := after) (i := value1) (r_var rfl) (r_var rfl) rfl b_v2)) b_r4
  refine W_ret (r_tupf (r_fls z5)) ?_
  obtain rfl := some_e e
  exact rfl
def tb1_law_composed (after : (List Nat)) (q1 : (List Nat)) (x2 : Nat) : Option (List Nat) :=
  (after[x2]?).bind fun v5 =>
  gd (q1.length + [v5].length ≤ 400000) <|
  lett ((q1 ++ [v5]) : (List Nat)) fun found7 =>
  some found7
def t_law_composed (row : (List Nat)) (after : (List Nat)) : Option (List Nat) :=
  (forO (tb1_law_composed after) row []).bind fun q8 =>
  some q8
theorem tt_law_composed {h : MH} {row : (List Nat)} {after : (List Nat)} {r : (List Nat)}  (e : t_law_composed row after = some r) : f_law_composed [(MV.tup (List.map nV row)), (MV.tup (List.map nV after))] h = ok (MV.tup (List.map nV r)) h := by
  unfold t_law_composed at e
  refine x_law_composed.trans (fn_go ?_)
  unfold m_law_composed
  refine W_seq (setS_ok (tupM_ok r_nil (by show 0 ≤ 1000; omega))) ?_
  obtain ⟨q8, b_q8, e⟩ := obind e
  refine W_forO (e := nV) (xs := row) (f := (tb1_law_composed after)) (fun (q1 : (List Nat)) s3 h4 => s3 = [some (MV.tup (List.map nV row)), some (MV.tup (List.map nV after)), some (MV.tup (List.map nV q1)), none] ∧ h = h4) (q_tup (r_var rfl)) ⟨rfl, rfl⟩ b_q8 (fun q1 x2 s h4 b ra e => ?_) ?_
  · obtain ⟨rfl, rfl⟩ := ra
    unfold tb1_law_composed at e
    refine W_turn rfl ?_
    unfold b1_law_composed
    refine W_wip' ?_
    refine W_lst ?_
    obtain ⟨v5, b_v5, e⟩ := obind e
    obtain ⟨g_6, e⟩ := gd_e e
    obtain ⟨found7, h_found7, e⟩ := lett_e e
    refine W_seq (setS_ok (ok_lt (f := e_VN) h_found7 (y_tcat (f := nV) (xs := q1) (ys := [v5]) (r_var rfl) (tupM_ok (consA_ok (y_ix (f := nV) (xs := after) (i := x2) (r_var rfl) (r_var rfl) rfl b_v5) r_nil) (by show 1 ≤ 1000; omega)) g_6))) ?_
    refine W_nil ?_
    obtain rfl := some_e e
    exact ⟨_, rfl, _, _, .inl rfl, ⟨rfl, rfl⟩⟩
  rintro _ _ ⟨rfl, rfl⟩
  refine W_ret (r_var rfl) ?_
  obtain rfl := some_e e
  exact rfl
def t_law_turns_right (pool : ((List Int) × Nat × Nat × Nat × Bool × Nat × Nat)) (space : ((Nat × (List (Nat × Nat))) × (List (List Nat)) × (List Nat))) : Option (Bool × ((List Int) × Nat × Nat × Nat × Bool × Nat × Nat)) :=
  (t_law_map pool space space).bind fun r1 =>
  (t_law_map r1.2 space space).bind fun r4 =>
  (t_compose r1.1 r4.1).bind fun r7 =>
  (t_law_composed r1.1 r4.1).bind fun r9 =>
  (same_t (PV.tup (r7.map (fun (q : Nat) => (PV.int ((q : Nat) : Int))))) (PV.tup (r9.map (fun (q : Nat) => (PV.int ((q : Nat) : Int)))))).bind fun r11 =>
  if (!r11) = true then (some (false, r4.2)) else ((t_compose r4.1 r1.1).bind fun r13 =>
  (t_law_composed r4.1 r1.1).bind fun r15 =>
  (same_t (PV.tup (r13.map (fun (q : Nat) => (PV.int ((q : Nat) : Int))))) (PV.tup (r15.map (fun (q : Nat) => (PV.int ((q : Nat) : Int)))))).bind fun r17 =>
  some (r17, r4.2))
theorem tt_law_turns_right {h : MH} {pool : ((List Int) × Nat × Nat × Nat × Bool × Nat × Nat)} {l0 : Nat} {space : ((Nat × (List (Nat × Nat))) × (List (List Nat)) × (List Nat))} {l1 : Nat} {r : (Bool × ((List Int) × Nat × Nat × Nat × Bool × Nat × Nat))} (w0 : h[l0]? = some (c_RX7cel_at_res_lef_odd_see_turFINNNBNN pool)) (w1 : h[l1]? = some (c_RX3ord_und_namP2NVP2NNFFNFN space)) (n0_1 : l0 ≠ l1) (e : t_law_turns_right pool space = some r) : f_law_turns_right [.ref l0, .ref l1] h = ok (MV.bl r.1) (h.set l0 (c_RX7cel_at_res_lef_odd_see_turFINNNBNN r.2)) := by
  unfold t_law_turns_right at e
  obtain ⟨o, eo, h9, e9, fr9, ln9, w9_0⟩ : ∃ o, m_law_turns_right [some (.ref l0), some (.ref l1), none, none] h = some o ∧ ∃ h9, defK (some o) = ok (MV.bl r.1) h9 ∧ Fr h [l0] h9 ∧ h9.length = h.length ∧ h9[l0]? = some (c_RX7cel_at_res_lef_odd_see_turFINNNBNN r.2) := by
    unfold m_law_turns_right
    have fr0 : Fr h [l0] h := Fr.refl
    have ln0 : h.length = h.length := rfl
    obtain ⟨r1, b_r1, e⟩ := obind e
    have c2 := tt_law_map (h := h) w0 w1 w1 n0_1 n0_1 b_r1
    obtain ⟨h3, q_h3⟩ : ∃ x : MH, x = h.set l0 (c_RX7cel_at_res_lef_odd_see_turFINNNBNN r1.2) := ⟨_, rfl⟩
    have w_h3_0 : h3[l0]? = some (c_RX7cel_at_res_lef_odd_see_turFINNNBNN r1.2) := by rw [q_h3]; exact g_eq w0
    have w_h3_1 : h3[l1]? = some (c_RX3ord_und_namP2NVP2NNFFNFN space) := by rw [q_h3]; exact g_ne w1 n0_1
    have fr_h3 : Fr h [l0] h3 := by rw [q_h3]; exact fr0.inn (by simp)
    have ln_h3 : h3.length = h.length := by rw [q_h3, List.length_set, ln0]
    rw [← q_h3] at c2
    refine W_seq (setS_ok (callM_ok (consA_ok (r_var rfl) (consA_ok (r_var rfl) (consA_ok (r_var rfl) r_nil))) c2)) ?_
    obtain ⟨r4, b_r4, e⟩ := obind e
    have c5 := tt_law_map (h := h3) w_h3_0 w_h3_1 w_h3_1 n0_1 n0_1 b_r4
    obtain ⟨h6, q_h6⟩ : ∃ x : MH, x = h3.set l0 (c_RX7cel_at_res_lef_odd_see_turFINNNBNN r4.2) := ⟨_, rfl⟩
    have w_h6_0 : h6[l0]? = some (c_RX7cel_at_res_lef_odd_see_turFINNNBNN r4.2) := by rw [q_h6]; exact g_eq w_h3_0
    have w_h6_1 : h6[l1]? = some (c_RX3ord_und_namP2NVP2NNFFNFN space) := by rw [q_h6]; exact g_ne w_h3_1 n0_1
    have fr_h6 : Fr h [l0] h6 := by rw [q_h6]; exact fr_h3.inn (by simp)
    have ln_h6 : h6.length = h.length := by rw [q_h6, List.length_set, ln_h3]
    rw [← q_h6] at c5
    refine W_seq (setS_ok (callM_ok (consA_ok (r_var rfl) (consA_ok (r_var rfl) (consA_ok (r_var rfl) r_nil))) c5)) ?_
    obtain ⟨r7, b_r7, e⟩ := obind e
    have c8 := tt_compose (h := h6)  b_r7
    obtain ⟨r9, b_r9, e⟩ := obind e
    have c10 := tt_law_composed (h := h6)  b_r9
    obtain ⟨r11, b_r11, e⟩ := obind e
    have c12 := same_tt (h := h6)  b_r11
    rcases ite_e e with ⟨hc, e⟩ | ⟨hc, e⟩
    · refine W_st (r_not (r_tru (callM_ok (consA_ok (ok_eq (callM_ok (consA_ok (r_var rfl) (consA_ok (r_var rfl) r_nil)) c8) (pv_V (f := nV) (xs := r7) (fun (q : Nat) => rfl))) (consA_ok (ok_eq (callM_ok (consA_ok (r_var rfl) (consA_ok (r_var rfl) r_nil)) c10) (pv_V (f := nV) (xs := r9) (fun (q : Nat) => rfl))) r_nil)) c12))) hc ?_
      refine W_sret rfl ?_
      obtain rfl := some_e e
      exact ⟨_, rfl, fr_h6, ln_h6, w_h6_0⟩
    · refine W_sf (r_not (r_tru (callM_ok (consA_ok (ok_eq (callM_ok (consA_ok (r_var rfl) (consA_ok (r_var rfl) r_nil)) c8) (pv_V (f := nV) (xs := r7) (fun (q : Nat) => rfl))) (consA_ok (ok_eq (callM_ok (consA_ok (r_var rfl) (consA_ok (r_var rfl) r_nil)) c10) (pv_V (f := nV) (xs := r9) (fun (q : Nat) => rfl))) r_nil)) c12))) hc ?_
      refine W_nils ?_
      obtain ⟨r13, b_r13, e⟩ := obind e
      have c14 := tt_compose (h := h6)  b_r13
      obtain ⟨r15, b_r15, e⟩ := obind e
      have c16 := tt_law_composed (h := h6)  b_r15
      obtain ⟨r17, b_r17, e⟩ := obind e
      have c18 := same_tt (h := h6)  b_r17
      refine W_ret (callM_ok (consA_ok (ok_eq (callM_ok (consA_ok (r_var rfl) (consA_ok (r_var rfl) r_nil)) c14) (pv_V (f := nV) (xs := r13) (fun (q : Nat) => rfl))) (consA_ok (ok_eq (callM_ok (consA_ok (r_var rfl) (consA_ok (r_var rfl) r_nil)) c16) (pv_V (f := nV) (xs := r15) (fun (q : Nat) => rfl))) r_nil)) c18) ?_
      obtain rfl := some_e e
      exact ⟨_, rfl, fr_h6, ln_h6, w_h6_0⟩
  have hh : h9 = (h.set l0 (c_RX7cel_at_res_lef_odd_see_turFINNNBNN r.2)) := fr9.e1 ln9 w9_0
  rw [← hh]
  exact x_law_turns_right.trans (by rw [eo]; exact e9)
def tb1_is_below (q1 : (Nat × Nat)) : Option Bool :=
   some (decide (q1.1 < q1.2))
def tb2_is_below (order : (Nat × (List (Nat × Nat)))) (x : Nat) (y : Nat) (q1 : (Nat × Nat)) : Option (Lp (Nat × Nat) Unit) :=
  lett (((q1.1 + q1.2) / 2) : Nat) fun middle4 =>
  (order.2[middle4]?).bind fun v5 =>
  if (decide (ltq v5 (x, y))) = true then (lett ((middle4 + 1) : Nat) fun start6 =>
  some (.nx (start6, q1.2))) else (some (.nx (q1.1, middle4)))
def t_is_below (order : (Nat × (List (Nat × Nat)))) (x : Nat) (y : Nat) : Option Bool :=
  lpB (whO tb1_is_below (tb2_is_below order x y) 1000000 (0, order.2.length)) (fun q7 =>
  (if (decide (q7.1 < order.2.length)) = true then ((order.2[q7.1]?).bind fun v8 => some (decide (v8 = (x, y)))) else (some false)).bind fun c9 =>
  some c9) (fun (r11 : Unit) => none)
theorem tt_is_below {h : MH} {order : (Nat × (List (Nat × Nat)))} {x : Nat} {y : Nat} {r : Bool}  (e : t_is_below order x y = some r) : f_is_below [(MV.tup [(nV order.1), (MV.tup (List.map prV order.2))]), (nV x), (nV y)] h = ok (MV.bl r) h := by
  unfold t_is_below at e
  refine x_is_below.trans (fn_go ?_)
  unfold m_is_below
  refine W_seq (setS_ok (r_ixt (i := 1) (r_var rfl) rfl rfl)) ?_
  refine W_seq (setS_ok rfl) ?_
  refine W_seq (setS_ok (y_len (f := prV) (xs := order.2) (r_var rfl) rfl)) ?_
  refine W_joinB e (fun (q1 : (Nat × Nat)) s2 h3 => s2 = [some (MV.tup [(nV order.1), (MV.tup (List.map prV order.2))]), some (nV x), some (nV y), some (MV.tup (List.map prV order.2)), some (nV q1.1), some (nV q1.2), none] ∧ h = h3) (fun (_ : Unit) _ _ => False) (fun o e => W_jwhl (c := tb1_is_below) (f := (tb2_is_below order x y)) (fun (q1 : (Nat × Nat)) s2 h3 => s2 = [some (MV.tup [(nV order.1), (MV.tup (List.map prV order.2))]), some (nV x), some (nV y), some (MV.tup (List.map prV order.2)), some (nV q1.1), some (nV q1.2), none] ∧ h = h3) (fun (_ : Unit) _ _ => False) ⟨rfl, rfl⟩ e (fun q1 s h3 b ra e => ?_) (fun q1 s h3 o ra _ e => ?_)) ?_ ?_
  · obtain ⟨rfl, rfl⟩ := ra
    unfold tb1_is_below at e
    obtain rfl := some_e e
    exact (r_tst (r_lt (i := q1.1) (j := q1.2) (r_var rfl) (r_var rfl)))
  · obtain ⟨rfl, rfl⟩ := ra
    unfold tb2_is_below at e
    unfold b1_is_below
    refine W_wip' ?_
    obtain ⟨middle4, h_middle4, e⟩ := lett_e e
    refine W_seq (setS_ok (ok_lt (f := nV) h_middle4 (n_div (i := (q1.1 + q1.2)) (j := 2) (r_add (i := q1.1) (j := q1.2) (r_var rfl) (r_var rfl)) rfl (by omega)))) ?_
    obtain ⟨v5, b_v5, e⟩ := obind e
    rcases ite_e e with ⟨hc, e⟩ | ⟨hc, e⟩
    · refine W_t (r_tst (y_ltq (p := v5) (q := (x, y)) (y_ix (f := prV) (xs := order.2) (i := middle4) (r_var rfl) (r_var rfl) rfl b_v5) (tupM_ok (consA_ok (r_var rfl) (consA_ok (r_var rfl) r_nil)) (by show 2 ≤ 1000; omega)))) hc ?_
      refine W_lst ?_
      obtain ⟨start6, h_start6, e⟩ := lett_e e
      refine W_seq (setS_ok (ok_lt (f := nV) h_start6 (r_add (i := middle4) (j := 1) (r_var rfl) rfl))) ?_
      refine W_nil ?_
      obtain rfl := some_e e
      exact ⟨_, rfl, _, _, .inl rfl, ⟨rfl, rfl⟩⟩
    · refine W_f (r_tst (y_ltq (p := v5) (q := (x, y)) (y_ix (f := prV) (xs := order.2) (i := middle4) (r_var rfl) (r_var rfl) rfl b_v5) (tupM_ok (consA_ok (r_var rfl) (consA_ok (r_var rfl) r_nil)) (by show 2 ≤ 1000; omega)))) hc ?_
      refine W_lst ?_
      refine W_seq (setS_ok (r_var rfl)) ?_
      refine W_nil ?_
      obtain rfl := some_e e
      exact ⟨_, rfl, _, _, .inl rfl, ⟨rfl, rfl⟩⟩
  · rintro q7 _ _ e ⟨rfl, rfl⟩
    obtain ⟨c9, b_c9, e⟩ := obind e
    have a10 : (andV (opM ltF (varM 4) (bltM lenF (consA (varM 3) nilA))) (opM eqF (opM ixF (varM 3) (varM 4)) (tupM (consA (varM 1) (consA (varM 2) nilA))))) [some (MV.tup [(nV order.1), (MV.tup (List.map prV order.2))]), some (nV x), some (nV y), some (MV.tup (List.map prV order.2)), some (nV q7.1), some (nV q7.2), none] h = ok (MV.bl c9) h := by
      rcases ite_e b_c9 with ⟨hc, e⟩ | ⟨hc, e⟩
      · skip
        obtain ⟨v8, b_v8, e⟩ := obind e
        obtain rfl := some_e e
        exact y_andVt (r_lt (i := q7.1) (j := order.2.length) (r_var rfl) (y_len (f := prV) (xs := order.2) (r_var rfl) rfl)) hc (r_eqv (Eqv.pr Eqv.nat Eqv.nat) (by decide) (a := v8) (b := (x, y)) ⟨trivial, trivial⟩ ⟨trivial, trivial⟩ (y_ix (f := prV) (xs := order.2) (i := q7.1) (r_var rfl) (r_var rfl) rfl b_v8) (tupM_ok (consA_ok (r_var rfl) (consA_ok (r_var rfl) r_nil)) (by show 2 ≤ 1000; omega)))
      · skip
        obtain rfl := some_e e
        exact y_andVf (r_lt (i := q7.1) (j := order.2.length) (r_var rfl) (y_len (f := prV) (xs := order.2) (r_var rfl) rfl)) hc
    refine W_ret a10 ?_
    obtain rfl := some_e e
    exact rfl
  · intro r11 v2 h2 e
    cases e
def tb1_at_most (second : (Nat × (List (Nat × Nat)))) (high : (List Nat)) (q1 : Unit) (xv2 : (Nat × Nat)) : Option (Lp Unit Bool) :=
  (high[xv2.1]?).bind fun v5 =>
  (if (!decide (xv2.2 = v5)) = true then ((high[xv2.1]?).bind fun v6 => (t_is_below second xv2.2 v6).bind fun r7 => some (!r7)) else (some false)).bind fun c9 =>
  if c9 = true then (some (.rt false)) else (some (.nx ()))
def t_at_most (second : (Nat × (List (Nat × Nat)))) (low : (List Nat)) (high : (List Nat)) : Option Bool :=
  lpB (forR (tb1_at_most second high) (enu low) ()) (fun q11 =>
  some true) (fun (r12 : Bool) => some r12)
theorem tt_at_most {h : MH} {second : (Nat × (List (Nat × Nat)))} {low : (List Nat)} {high : (List Nat)} {r : Bool}  (e : t_at_most second low high = some r) : f_at_most [(MV.tup [(nV second.1), (MV.tup (List.map prV second.2))]), (MV.tup (List.map nV low)), (MV.tup (List.map nV high))] h = ok (MV.bl r) h := by
  unfold t_at_most at e
  refine x_at_most.trans (fn_go ?_)
  unfold m_at_most
  refine W_joinB e (fun (q1 : Unit) s3 h4 => s3 = [some (MV.tup [(nV second.1), (MV.tup (List.map prV second.2))]), some (MV.tup (List.map nV low)), some (MV.tup (List.map nV high)), none, none] ∧ h = h4) (fun (r : Bool) v h9 => v = (MV.bl r) ∧ h = h9) (fun o e => W_jfor (e := prV) (xs := (enu low)) (f := (tb1_at_most second high)) (fun (q1 : Unit) s3 h4 => s3 = [some (MV.tup [(nV second.1), (MV.tup (List.map prV second.2))]), some (MV.tup (List.map nV low)), some (MV.tup (List.map nV high)), none, none] ∧ h = h4) (fun (r : Bool) v h9 => v = (MV.bl r) ∧ h = h9) (y_enmV (f := nV) (xs := low) (r_var rfl)) ⟨rfl, rfl⟩ e (fun q1 xv2 s h4 o ra e => ?_)) ?_ ?_
  · obtain ⟨rfl, rfl⟩ := ra
    unfold tb1_at_most at e
    refine W_turn rfl ?_
    unfold b1_at_most
    refine W_wip' ?_
    obtain ⟨v5, b_v5, e⟩ := obind e
    obtain ⟨c9, b_c9, e⟩ := obind e
    have a10 : (andT (tstM (opM neF (varM 4) (opM ixF (varM 2) (varM 3)))) (notT (truM (callM f_is_below [] (consA (varM 0) (consA (varM 4) (consA (opM ixF (varM 2) (varM 3)) nilA))))))) [some (MV.tup [(nV second.1), (MV.tup (List.map prV second.2))]), some (MV.tup (List.map nV low)), some (MV.tup (List.map nV high)), some (nV xv2.1), some (nV xv2.2)] h = ok c9 h := by
      rcases ite_e b_c9 with ⟨hc, e⟩ | ⟨hc, e⟩
      · skip
        obtain ⟨v6, b_v6, e⟩ := obind e
        obtain ⟨r7, b_r7, e⟩ := obind e
        have c8 := tt_is_below (h := h)  b_r7
        obtain rfl := some_e e
        exact y_andTt (r_tst (r_ne (i := xv2.2) (j := v5) (r_var rfl) (y_ix (f := nV) (xs := high) (i := xv2.1) (r_var rfl) (r_var rfl) rfl b_v5))) hc (r_not (r_tru (callM_ok (consA_ok (r_var rfl) (consA_ok (r_var rfl) (consA_ok (y_ix (f := nV) (xs := high) (i := xv2.1) (r_var rfl) (r_var rfl) rfl b_v6) r_nil))) c8)))
      · skip
        obtain rfl := some_e e
        exact y_andTf (r_tst (r_ne (i := xv2.2) (j := v5) (r_var rfl) (y_ix (f := nV) (xs := high) (i := xv2.1) (r_var rfl) (r_var rfl) rfl b_v5))) hc
    rcases ite_e e with ⟨hc, e⟩ | ⟨hc, e⟩
    · refine W_t a10 hc ?_
      refine W_ret rfl ?_
      obtain rfl := some_e e
      exact ⟨_, rfl, _, _, rfl, ⟨rfl, rfl⟩⟩
    · refine W_f a10 hc ?_
      refine W_nil ?_
      obtain rfl := some_e e
      exact ⟨_, rfl, _, _, .inl rfl, ⟨rfl, rfl⟩⟩
  · rintro q11 _ _ e ⟨rfl, rfl⟩
    refine W_ret rfl ?_
    obtain rfl := some_e e
    exact rfl
  · intro r12 v2 h2 e
    rintro ⟨rfl, rfl⟩
    obtain rfl := some_e e
    exact rfl
def t_are_neighbours (second : (Nat × (List (Nat × Nat)))) (row : (List Nat)) (other : (List Nat)) : Option Bool :=
  (t_at_most second row other).bind fun r1 =>
  (if r1 = true then (some true) else ((t_at_most second other row).bind fun r3 => some r3)).bind fun c5 =>
  some c5
theorem tt_are_neighbours {h : MH} {second : (Nat × (List (Nat × Nat)))} {row : (List Nat)} {other : (List Nat)} {r : Bool}  (e : t_are_neighbours second row other = some r) : f_are_neighbours [(MV.tup [(nV second.1), (MV.tup (List.map prV second.2))]), (MV.tup (List.map nV row)), (MV.tup (List.map nV other))] h = ok (MV.bl r) h := by
  unfold t_are_neighbours at e
  refine x_are_neighbours.trans (fn_go ?_)
  unfold m_are_neighbours
  obtain ⟨r1, b_r1, e⟩ := obind e
  have c2 := tt_at_most (h := h)  b_r1
  obtain ⟨c5, b_c5, e⟩ := obind e
  have a6 : (orV (callM f_at_most [] (consA (varM 0) (consA (varM 1) (consA (varM 2) nilA)))) (callM f_at_most [] (consA (varM 0) (consA (varM 2) (consA (varM 1) nilA))))) [some (MV.tup [(nV second.1), (MV.tup (List.map prV second.2))]), some (MV.tup (List.map nV row)), some (MV.tup (List.map nV other))] h = ok (MV.bl c5) h := by
    rcases ite_e b_c5 with ⟨hc, e⟩ | ⟨hc, e⟩
    · skip
      obtain rfl := some_e e
      exact y_orVt (callM_ok (consA_ok (r_var rfl) (consA_ok (r_var rfl) (consA_ok (r_var rfl) r_nil))) c2) hc
    · skip
      obtain ⟨r3, b_r3, e⟩ := obind e
      have c4 := tt_at_most (h := h)  b_r3
      obtain rfl := some_e e
      exact y_orVf (callM_ok (consA_ok (r_var rfl) (consA_ok (r_var rfl) (consA_ok (r_var rfl) r_nil))) c2) hc (callM_ok (consA_ok (r_var rfl) (consA_ok (r_var rfl) (consA_ok (r_var rfl) r_nil))) c4)
  refine W_ret a6 ?_
  obtain rfl := some_e e
  exact rfl
def t_law_is_most (second : ((Nat × (List (Nat × Nat))) × (List (List Nat)) × (List Nat))) (low : (List Nat)) (high : (List Nat)) : Option Bool :=
  gd (low.length ≤ 400000) <|
  gd ((List.range low.length).length ≤ 400000) <|
  (lcO (fun x2 : Nat => (low[x2]?).bind fun v3 => (high[x2]?).bind fun v4 => (t_law_leq second v3 v4).bind fun r5 => some (!r5)) (fun x2 : Nat => ( some x2 : Option Nat)) (List.range low.length)).bind fun r8 =>
  some (decide (r8.length = 0))
theorem tt_law_is_most {h : MH} {second : ((Nat × (List (Nat × Nat))) × (List (List Nat)) × (List Nat))} {l0 : Nat} {low : (List Nat)} {high : (List Nat)} {r : Bool} (w0 : h[l0]? = some (c_RX3ord_und_namP2NVP2NNFFNFN second)) (e : t_law_is_most second low high = some r) : f_law_is_most [.ref l0, (MV.tup (List.map nV low)), (MV.tup (List.map nV high))] h = ok (MV.bl r) h := by
  unfold t_law_is_most at e
  refine x_law_is_most.trans (fn_go ?_)
  unfold m_law_is_most
  obtain ⟨g_1, e⟩ := gd_e e
  obtain ⟨g_7, e⟩ := gd_e e
  obtain ⟨r8, b_r8, e⟩ := obind e
  have z9 : (lcM (rng1 (consA (bltM lenF (consA (varM 1) nilA)) nilA)) [3] (one 3) (notT (truM (callM f_law_leq [] (consA (varM 0) (consA (opM ixF (varM 1) (varM 3)) (consA (opM ixF (varM 2) (varM 3)) nilA)))))) (varM 3)) [some (.ref l0), some (MV.tup (List.map nV low)), some (MV.tup (List.map nV high)), none] h = ok (List.map nV r8) h := z_lcO (f := nV) (g := nV) (xs := (List.range low.length)) (q_rng (n := low.length) (y_len (f := nV) (xs := low) (r_var rfl) rfl) g_1) g_7 (fun _ => rfl)
      (fun x2 b e => by
        obtain ⟨v3, b_v3, e⟩ := obind e
        obtain ⟨v4, b_v4, e⟩ := obind e
        obtain ⟨r5, b_r5, e⟩ := obind e
        have c6 := tt_law_leq (h := h) w0 b_r5
        obtain rfl := some_e e
        exact (r_not (r_tru (callM_ok (consA_ok (r_var rfl) (consA_ok (y_ix (f := nV) (xs := low) (i := x2) (r_var rfl) (r_var rfl) rfl b_v3) (consA_ok (y_ix (f := nV) (xs := high) (i := x2) (r_var rfl) (r_var rfl) rfl b_v4) r_nil))) c6))))
      (fun x2 y e => by
        obtain rfl := some_e e
        exact (r_var rfl)) b_r8
  refine W_ret (r_eq (i := r8.length) (j := 0) (y_len (f := nV) (xs := r8) (r_fls z9) rfl) rfl) ?_
  obtain rfl := some_e e
  exact rfl
def t_law_whether (told : Bool) (due : Bool) : Option Bool :=
  some (true && (decide (told = due)))
theorem tt_law_whether {h : MH} {told : Bool} {due : Bool} {r : Bool}  (e : t_law_whether told due = some r) : f_law_whether [(MV.bl told), (MV.bl due)] h = ok (MV.bl r) h := by
  unfold t_law_whether at e
  refine x_law_whether.trans (fn_go ?_)
  unfold m_law_whether
  refine W_ret (r_andV (p := true) (q := (decide (told = due))) (y_isi (r_var rfl) rfl) (fun _ => (r_eqb (i := told) (j := due) (r_var rfl) (r_var rfl)))) ?_
  obtain rfl := some_e e
  exact rfl
def tb1_law_pairs_right (second : ((Nat × (List (Nat × Nat))) × (List (List Nat)) × (List Nat))) (low2 : (List Nat)) (q5 : Unit) (high6 : (List Nat)) : Option (Lp Unit Bool) :=
  (t_law_is_most second low2 high6).bind fun r9 =>
  (if r9 = true then (some true) else ((t_law_is_most second high6 low2).bind fun r11 => some r11)).bind fun c13 =>
  (t_at_most second.1 low2 high6).bind fun r15 =>
  (t_law_whether r15 r9).bind fun r17 =>
  if (!r17) = true then (some (.rt false)) else ((t_at_most second.1 low2 high6).bind fun r19 =>
  (t_law_whether r19 r9).bind fun r21 =>
  if (!r21) = true then (some (.rt false)) else ((t_are_neighbours second.1 low2 high6).bind fun r23 =>
  (t_law_whether r23 c13).bind fun r25 =>
  if (!r25) = true then (some (.rt false)) else ((t_are_neighbours second.1 high6 low2).bind fun r27 =>
  (t_law_whether r27 c13).bind fun r29 =>
  if (!r29) = true then (some (.rt false)) else (some (.nx ())))))
def tb2_law_pairs_right (second : ((Nat × (List (Nat × Nat))) × (List (List Nat)) × (List Nat))) (maps : (List (List Nat))) (q1 : Unit) (low2 : (List Nat)) : Option (Lp Unit Bool) :=
  lpB (forR (tb1_law_pairs_right second low2) maps ()) (fun q31 =>
  some (.nx ())) (fun (r32 : Bool) => some (.rt r32))
def t_law_pairs_right (second : ((Nat × (List (Nat × Nat))) × (List (List Nat)) × (List Nat))) (maps : (List (List Nat))) : Option Bool :=
  lpB (forR (tb2_law_pairs_right second maps) maps ()) (fun q33 =>
  some true) (fun (r34 : Bool) => some r34)
theorem tt_law_pairs_right {h : MH} {second : ((Nat × (List (Nat × Nat))) × (List (List Nat)) × (List Nat))} {l0 : Nat} {maps : (List (List Nat))} {r : Bool} (w0 : h[l0]? = some (c_RX3ord_und_namP2NVP2NNFFNFN second)) (e : t_law_pairs_right second maps = some r) : f_law_pairs_right [.ref l0, (MV.fls (List.map e_VN maps))] h = ok (MV.bl r) h := by
  unfold t_law_pairs_right at e
  refine x_law_pairs_right.trans (fn_go ?_)
  unfold m_law_pairs_right
  refine W_joinB e (fun (q1 : Unit) s3 h4 => s3 = [some (.ref l0), some (MV.fls (List.map e_VN maps)), none, none, none, none] ∧ h = h4) (fun (r : Bool) v h9 => v = (MV.bl r) ∧ h = h9) (fun o e => W_jfor (e := e_VN) (xs := maps) (f := (tb2_law_pairs_right second maps)) (fun (q1 : Unit) s3 h4 => s3 = [some (.ref l0), some (MV.fls (List.map e_VN maps)), none, none, none, none] ∧ h = h4) (fun (r : Bool) v h9 => v = (MV.bl r) ∧ h = h9) (q_fls (r_var rfl)) ⟨rfl, rfl⟩ e (fun q1 low2 s h4 o ra e => ?_)) ?_ ?_
  · obtain ⟨rfl, rfl⟩ := ra
    unfold tb2_law_pairs_right at e
    refine W_turn rfl ?_
    unfold b2_law_pairs_right
    refine W_wip' ?_
    refine W_lst ?_
    refine W_joinB e (fun (q5 : Unit) s7 h8 => s7 = [some (.ref l0), some (MV.fls (List.map e_VN maps)), some (MV.tup (List.map nV low2)), none, none, none] ∧ h = h8) (fun (r : Bool) v h9 => v = (MV.bl r) ∧ h = h9) (fun o e => W_jfor (e := e_VN) (xs := maps) (f := (tb1_law_pairs_right second low2)) (fun (q5 : Unit) s7 h8 => s7 = [some (.ref l0), some (MV.fls (List.map e_VN maps)), some (MV.tup (List.map nV low2)), none, none, none] ∧ h = h8) (fun (r : Bool) v h9 => v = (MV.bl r) ∧ h = h9) (q_fls (r_var rfl)) ⟨rfl, rfl⟩ e (fun q5 high6 s h8 o ra e => ?_)) ?_ ?_
    · obtain ⟨rfl, rfl⟩ := ra
      unfold tb1_law_pairs_right at e
      refine W_turn rfl ?_
      unfold b1_law_pairs_right
      refine W_wip' ?_
      obtain ⟨r9, b_r9, e⟩ := obind e
      have c10 := tt_law_is_most (h := h) w0 b_r9
      refine W_seq (setS_ok (callM_ok (consA_ok (r_var rfl) (consA_ok (r_var rfl) (consA_ok (r_var rfl) r_nil))) c10)) ?_
      obtain ⟨c13, b_c13, e⟩ := obind e
      have a14 : (orV (varM 4) (callM f_law_is_most [] (consA (varM 0) (consA (varM 3) (consA (varM 2) nilA))))) [some (.ref l0), some (MV.fls (List.map e_VN maps)), some (MV.tup (List.map nV low2)), some (MV.tup (List.map nV high6)), some (MV.bl r9), none] h = ok (MV.bl c13) h := by
        rcases ite_e b_c13 with ⟨hc, e⟩ | ⟨hc, e⟩
        · skip
          obtain rfl := some_e e
          exact y_orVt (r_var rfl) hc
        · skip
          obtain ⟨r11, b_r11, e⟩ := obind e
          have c12 := tt_law_is_most (h := h) w0 b_r11
          obtain rfl := some_e e
          exact y_orVf (r_var rfl) hc (callM_ok (consA_ok (r_var rfl) (consA_ok (r_var rfl) (consA_ok (r_var rfl) r_nil))) c12)
      refine W_seq (setS_ok a14) ?_
      obtain ⟨r15, b_r15, e⟩ := obind e
      have c16 := tt_at_most (h := h)  b_r15
      obtain ⟨r17, b_r17, e⟩ := obind e
      have c18 := tt_law_whether (h := h)  b_r17
      rcases ite_e e with ⟨hc, e⟩ | ⟨hc, e⟩
      · refine W_st (r_not (r_tru (callM_ok (consA_ok (callM_ok (consA_ok (y_xget (r_var rfl) rfl w0 rfl rfl) (consA_ok (r_var rfl) (consA_ok (r_var rfl) r_nil))) c16) (consA_ok (r_var rfl) r_nil)) c18))) hc ?_
        refine W_sret rfl ?_
        obtain rfl := some_e e
        exact ⟨_, rfl, _, _, rfl, ⟨rfl, rfl⟩⟩
      · refine W_sf (r_not (r_tru (callM_ok (consA_ok (callM_ok (consA_ok (y_xget (r_var rfl) rfl w0 rfl rfl) (consA_ok (r_var rfl) (consA_ok (r_var rfl) r_nil))) c16) (consA_ok (r_var rfl) r_nil)) c18))) hc ?_
        refine W_nils ?_
        obtain ⟨r19, b_r19, e⟩ := obind e
        have c20 := tt_at_most (h := h)  b_r19
        obtain ⟨r21, b_r21, e⟩ := obind e
        have c22 := tt_law_whether (h := h)  b_r21
        rcases ite_e e with ⟨hc, e⟩ | ⟨hc, e⟩
        · refine W_st (r_not (r_tru (callM_ok (consA_ok (callKM_ok r_nil (consA_ok (r_var rfl) (consA_ok (r_var rfl) (consA_ok (y_xget (r_var rfl) rfl w0 rfl rfl) r_nil))) ⟨rfl, rfl⟩ c20) (consA_ok (r_var rfl) r_nil)) c22))) hc ?_
          refine W_sret rfl ?_
          obtain rfl := some_e e
          exact ⟨_, rfl, _, _, rfl, ⟨rfl, rfl⟩⟩
        · refine W_sf (r_not (r_tru (callM_ok (consA_ok (callKM_ok r_nil (consA_ok (r_var rfl) (consA_ok (r_var rfl) (consA_ok (y_xget (r_var rfl) rfl w0 rfl rfl) r_nil))) ⟨rfl, rfl⟩ c20) (consA_ok (r_var rfl) r_nil)) c22))) hc ?_
          refine W_nils ?_
          obtain ⟨r23, b_r23, e⟩ := obind e
          have c24 := tt_are_neighbours (h := h)  b_r23
          obtain ⟨r25, b_r25, e⟩ := obind e
          have c26 := tt_law_whether (h := h)  b_r25
          rcases ite_e e with ⟨hc, e⟩ | ⟨hc, e⟩
          · refine W_st (r_not (r_tru (callM_ok (consA_ok (callM_ok (consA_ok (y_xget (r_var rfl) rfl w0 rfl rfl) (consA_ok (r_var rfl) (consA_ok (r_var rfl) r_nil))) c24) (consA_ok (r_var rfl) r_nil)) c26))) hc ?_
            refine W_sret rfl ?_
            obtain rfl := some_e e
            exact ⟨_, rfl, _, _, rfl, ⟨rfl, rfl⟩⟩
          · refine W_sf (r_not (r_tru (callM_ok (consA_ok (callM_ok (consA_ok (y_xget (r_var rfl) rfl w0 rfl rfl) (consA_ok (r_var rfl) (consA_ok (r_var rfl) r_nil))) c24) (consA_ok (r_var rfl) r_nil)) c26))) hc ?_
            refine W_nils ?_
            obtain ⟨r27, b_r27, e⟩ := obind e
            have c28 := tt_are_neighbours (h := h)  b_r27
            obtain ⟨r29, b_r29, e⟩ := obind e
            have c30 := tt_law_whether (h := h)  b_r29
            rcases ite_e e with ⟨hc, e⟩ | ⟨hc, e⟩
            · refine W_t (r_not (r_tru (callM_ok (consA_ok (callKM_ok r_nil (consA_ok (r_var rfl) (consA_ok (r_var rfl) (consA_ok (y_xget (r_var rfl) rfl w0 rfl rfl) r_nil))) ⟨rfl, rfl⟩ c28) (consA_ok (r_var rfl) r_nil)) c30))) hc ?_
              refine W_ret rfl ?_
              obtain rfl := some_e e
              exact ⟨_, rfl, _, _, rfl, ⟨rfl, rfl⟩⟩
            · refine W_f (r_not (r_tru (callM_ok (consA_ok (callKM_ok r_nil (consA_ok (r_var rfl) (consA_ok (r_var rfl) (consA_ok (y_xget (r_var rfl) rfl w0 rfl rfl) r_nil))) ⟨rfl, rfl⟩ c28) (consA_ok (r_var rfl) r_nil)) c30))) hc ?_
              refine W_nil ?_
              obtain rfl := some_e e
              exact ⟨_, rfl, _, _, .inl rfl, ⟨rfl, rfl⟩⟩
    · rintro q31 _ _ e ⟨rfl, rfl⟩
      refine W_nil ?_
      obtain rfl := some_e e
      exact ⟨_, rfl, _, _, .inl rfl, ⟨rfl, rfl⟩⟩
    · intro r32 v2 h2 e
      intro rr
      obtain rfl := some_e e
      exact ⟨_, rfl, _, _, rfl, rr⟩
  · rintro q33 _ _ e ⟨rfl, rfl⟩
    refine W_ret rfl ?_
    obtain rfl := some_e e
    exact rfl
  · intro r34 v2 h2 e
    rintro ⟨rfl, rfl⟩
    obtain rfl := some_e e
    exact rfl
end
end Mi.k10
set_option simprocs true
set_option maxHeartbeats 2000000
namespace Mi.ml
open PySem L2
end Mi.ml
set_option simprocs false
set_option maxHeartbeats 2000000
namespace Mi.k10
open PySem L2
abbrev PO := List Int × Nat × Nat × Nat × Bool × Nat × Nat
abbrev SP := (Nat × List (Nat × Nat)) × List (List Nat) × List Nat
theorem mixed_ok (a b : Nat) {m : Nat} (h : 0 < m) : ∃ d, t_law_mixed a b m = some d ∧ d < m := by
  unfold t_law_mixed
  have hp : 0 < 2305843009213693951 := by omega
  rw [gd_ok hp, lett_is]
  obtain ⟨x, hx⟩ : ∃ x, x = (((a * 48271) + (b * 1000000000039)) + 12345678910111213) % 2305843009213693951 := ⟨_, rfl⟩
  have hl : x < 2305843009213693951 := by rw [hx]; exact Nat.mod_lt _ hp
  rw [← hx, gd_ok (.inl ⟨by omega, by omega⟩), gd_ok hp, lett_is, gd_ok h]
  exact ⟨_, rfl, Nat.mod_lt _ h⟩
theorem pool_ok (xs : List Int) : ∃ st, t_law_pool xs = some st := by
  unfold t_law_pool
  obtain ⟨b, e, _⟩ := forO_mem (f := tb1_law_pool) (fun _ => True) (xs := xs) (a0 := 7) trivial fun x _ a _ => by
    unfold tb1_law_pool
    rw [lett_is]
    exact ⟨_, rfl, trivial⟩
  rw [e, Option.bind_some, lett_is]
  exact ⟨_, rfl⟩
theorem take_ok (st : PO) {m : Nat} (h0 : 0 < m) (h1 : m < 1000000000) : ∃ d st', t_law_take st m = some (d, st') ∧ d < m := by
  unfold t_law_take
  rw [lett_is]
  obtain ⟨c2, hc⟩ : ∃ c : PO, c = (st.1, st.2.1, st.2.2.1, st.2.2.2.1, st.2.2.2.2.1, st.2.2.2.2.2.1, (st.2.2.2.2.2.2 + 1)) := ⟨_, rfl⟩
  rw [← hc]
  have j : ∃ j : PO, (if ((decide (c2.2.2.2.1 = 0)) && (decide (c2.2.1 < c2.1.length))) = true then ((c2.1[c2.2.1]?).bind fun v8 =>
    lett ((c2.1, (c2.2.1 + 1), c2.2.2.1, c2.2.2.2.1, c2.2.2.2.2.1, c2.2.2.2.2.2.1, c2.2.2.2.2.2.2) : PO) fun c10 =>
    lett ((c10.1, c10.2.1, c10.2.2.1, c10.2.2.2.1, (decide ((v8 % (2 : Nat)).toNat = 1)), c10.2.2.2.2.2.1, c10.2.2.2.2.2.2) : PO) fun c12 =>
    lett ((c12.1, c12.2.1, (v8.natAbs / 2), c12.2.2.2.1, c12.2.2.2.2.1, c12.2.2.2.2.2.1, c12.2.2.2.2.2.2) : PO) fun c14 =>
    ([60, 6][(c14.2.2.2.2.1).toNat]?).bind fun v15 =>
    lett ((c14.1, c14.2.1, c14.2.2.1, v15, c14.2.2.2.2.1, c14.2.2.2.2.2.1, c14.2.2.2.2.2.2) : PO) fun c17 =>
    some c17) else (some c2) : Option PO) = some j := by
    split
    · rename_i c
      have c3 : c2.2.1 < c2.1.length := of_decide_eq_true (Bool.and_eq_true_iff.mp c).2
      rw [List.getElem?_eq_getElem c3, Option.bind_some, lett_is, lett_is, lett_is]
      have w : ∀ b : Bool, ∃ v, ([60, 6] : List Nat)[b.toNat]? = some v := fun b => by cases b <;> exact ⟨_, rfl⟩
      obtain ⟨v, hv⟩ := w (decide ((c2.1[c2.2.1] % (2 : Nat)).toNat = 1))
      rw [hv, Option.bind_some, lett_is]
      exact ⟨_, rfl⟩
    · exact ⟨_, rfl⟩
  obtain ⟨j, hj⟩ := j
  rw [hj, Option.bind_some]
  split
  · obtain ⟨d, e, hd⟩ := mixed_ok j.2.2.2.2.2.1 j.2.2.2.2.2.2 h0
    rw [e]
    exact ⟨_, _, rfl, hd⟩
  · rename_i c
    have c3 : 1 ≤ j.2.2.2.1 := by
      have : ¬ j.2.2.2.1 = 0 := fun h => c (decide_eq_true h)
      omega
    rw [gd_ok c3, lett_is]
    split
    · obtain ⟨d, e, hd⟩ := mixed_ok j.2.2.1 j.2.2.2.2.2.2 h0
      rw [e]
      exact ⟨_, _, rfl, hd⟩
    · rw [gd_ok h0, lett_is, gd_ok ⟨h0, h1⟩, lett_is]
      split
      · exact ⟨_, _, rfl, Nat.mod_lt _ h0⟩
      · exact ⟨_, _, rfl, Nat.mod_lt _ h0⟩
theorem perm_er {α : Type} {left : List α} {d : Nat} (h : d < left.length) : (left.eraseIdx d ++ [left[d]]).Perm left := by
  rw [List.eraseIdx_eq_take_drop_succ]
  have h1 : left = left.take d ++ left[d] :: left.drop (d + 1) := by
    rw [← List.drop_eq_getElem_cons h, List.take_append_drop]
  refine List.Perm.trans ?_ (List.Perm.of_eq h1.symm)
  rw [List.append_assoc]
  exact List.Perm.append_left _ (List.perm_append_singleton _ _)
theorem names_ok (st : PO) {n : Nat} (hn : n ≤ 400000) : ∃ L st', t_law_names st n = some (L, st') ∧ L.Perm (List.range n) := by
  unfold t_law_names
  obtain ⟨d, s1, e1, _⟩ := take_ok st (m := 4) (by omega) (by omega)
  rw [e1, Option.bind_some]
  split
  · rw [gd_ok hn]
    exact ⟨_, _, rfl, List.Perm.refl _⟩
  · rw [gd_ok hn, lett_is, gd_ok hn, gd_ok (by rw [List.length_range]; exact hn)]
    obtain ⟨q, e, l1, pq⟩ := lcW_inv (f := fun (q19 : (PO × (List Nat))) (k10 : Nat) => ((t_law_take q19.1 q19.2.length).bind fun r21 => gd (q19.2.length ≤ 400000) <| (q19.2[r21.1]?).bind fun v25 => lett ((q19.2.eraseIdx r21.1) : (List Nat)) fun c27 => some (some v25, (r21.2, c27)) : Option (Option Nat × (PO × (List Nat))))) (xs := List.range n) (a0 := ((d, s1).2, List.range n)) (fun i acc q => q.2.length + i = n ∧ (q.2 ++ acc).Perm (List.range n)) ⟨List.length_range, by rw [List.append_nil]⟩ fun i x acc q hx ⟨l1, pq⟩ => by
      have hi : i < n := by
        have := (List.getElem?_eq_some_iff.mp hx).1
        rwa [List.length_range] at this
      obtain ⟨d, st', e, hd⟩ := take_ok q.1 (m := q.2.length) (by omega) (by omega)
      rw [e, Option.bind_some, gd_ok (by omega), List.getElem?_eq_getElem hd, Option.bind_some, lett_is]
      refine ⟨_, rfl, ?_, ?_⟩
      · show (q.2.eraseIdx d).length + (i + 1) = n
        rw [List.length_eraseIdx_of_lt hd]
        omega
      · refine List.Perm.trans ?_ pq
        show (q.2.eraseIdx d ++ (acc ++ [q.2[d]])).Perm (q.2 ++ acc)
        rw [← List.append_assoc]
        refine List.Perm.trans ?_ (List.Perm.append_right acc (perm_er hd))
        rw [List.append_assoc, List.append_assoc]
        exact List.Perm.append_left _ List.perm_append_comm
    rw [e, Option.bind_some]
    refine ⟨_, _, rfl, ?_⟩
    rw [List.length_range] at l1
    have : q.2.2 = [] := List.eq_nil_of_length_eq_zero (by omega)
    rw [this, List.nil_append] at pq
    exact pq
def Mat (n : Nat) (T : List (List Nat)) : Prop := T.length = n ∧ ∀ r ∈ T, r.length = n
def ent (T : List (List Nat)) (x y : Nat) : Nat := (T[x]?.getD [])[y]?.getD 0
theorem Mat.row {n : Nat} {T : List (List Nat)} (h : Mat n T) {x : Nat} (hx : x < n) : ∃ r, T[x]? = some r ∧ r.length = n ∧ ∀ y, y < n → r[y]? = some (ent T x y) := by
  have hl : x < T.length := by rw [h.1]; exact hx
  have e := List.getElem?_eq_getElem hl
  have l := h.2 _ (List.getElem_mem hl)
  refine ⟨_, e, l, fun y hy => ?_⟩
  unfold ent
  rw [e]
  show T[x][y]? = some (T[x][y]?.getD 0)
  rw [List.getElem?_eq_getElem (by omega)]
  rfl
theorem Mat.set {n : Nat} {T : List (List Nat)} (h : Mat n T) {x : Nat} {r : List Nat} (hr : r.length = n) : Mat n (T.set x r) := ⟨by rw [List.length_set]; exact h.1, fun z hz => by
  rcases List.mem_or_eq_of_mem_set hz with q | q
  · exact h.2 z q
  · rw [q]; exact hr⟩
theorem zs_len {n : Nat} : (List.replicate n [0]).flatten.length = n := by
  rw [List.length_flatten, List.map_replicate, List.sum_replicate_nat]
  exact Nat.mul_one n
theorem zero_ok {n : Nat} (hn : n ≤ 400000) : ∃ T, lcO (fun _ => some true) (fun k2 : Nat => (gd ([0].length * n ≤ 400000) <| gd (n ≤ 400000) <| some (List.replicate n [0]).flatten : Option (List Nat))) (List.range n) = some T ∧ Mat n T := by
  refine ⟨_, lcO_map (v1 := fun _ => (List.replicate n [0]).flatten) fun x _ => by rw [gd_ok (by show 1 * n ≤ _; omega), gd_ok hn], by rw [List.length_map, List.length_range], fun r hr => ?_⟩
  obtain ⟨_, _, rfl⟩ := List.mem_map.mp hr
  exact zs_len
structure Good (n : Nat) (sp : SP) : Prop where
  n1 : sp.1.1 = n
  mt : Mat n sp.2.1
  nm : sp.2.2.Perm (List.range n)
  pr : ∀ p, p ∈ sp.1.2 ↔ p.1 < n ∧ p.2 < n ∧ ent sp.2.1 p.1 p.2 = 1
  so : sp.1.2.Pairwise ltq
  ln : sp.1.2.length ≤ n * n
theorem space_ok {n : Nat} (hn : n ≤ 64) {L : List Nat} (hL : L.Perm (List.range n)) {U : List (List Nat)} (hU : Mat n U) : ∃ sp, t_law_space L U = some sp ∧ Good n sp := by
  have ll : L.length = n := by rw [hL.length_eq, List.length_range]
  have lt : ∀ k (h : k < L.length), L[k] < n := fun k h => List.mem_range.mp (hL.mem_iff.mp (List.getElem_mem _))
  unfold t_law_space
  rw [ll, gd_ok (by omega), gd_ok (by rw [List.length_range]; omega)]
  obtain ⟨T, e, hT⟩ := zero_ok (n := n) (by omega)
  rw [e, Option.bind_some, gd_ok (by omega)]
  obtain ⟨T2, e2, hT2⟩ := forO_rng (f := tb2_law_space L U) (n := n) (a0 := T) (fun _ q => Mat n q) hT fun i q hi hq => by
    have hl : i < L.length := by omega
    obtain ⟨row, e3, _, _⟩ := hq.row (lt i hl)
    unfold tb2_law_space
    rw [List.getElem?_eq_getElem hl, Option.bind_some, e3, Option.bind_some, gd_ok (by omega), ll]
    obtain ⟨q2, e4, h4⟩ := forO_rng (f := tb1_law_space L U i L[i]) (n := n) (a0 := q) (fun _ q => Mat n q) hq fun j q hj hq => by
      have hl2 : j < L.length := by omega
      obtain ⟨ur, eu, _, hu⟩ := hU.row hi
      obtain ⟨r, er, lr, _⟩ := hq.row (lt i hl)
      unfold tb1_law_space
      rw [eu, Option.bind_some, hu j hj, Option.bind_some, er, Option.bind_some, List.getElem?_eq_getElem hl2, Option.bind_some, gd_ok (by rw [lr]; exact lt j hl2), lett_is]
      exact ⟨_, rfl, hq.set (by rw [List.length_set]; exact lr)⟩
    rw [e4]
    exact ⟨_, rfl, h4⟩
  rw [e2, Option.bind_some, gd_ok (by omega)]
  obtain ⟨ps, e5, h5, l5, o5⟩ := forO_rng (f := tb3_law_space L T2) (n := n) (a0 := []) (fun i ps => (∀ p, p ∈ ps ↔ p.1 < i ∧ p.2 < n ∧ ent T2 p.1 p.2 = 1) ∧ ps.length ≤ i * n ∧ ps.Pairwise ltq) ⟨fun p => ⟨fun h => (nomatch h), fun h => absurd h.1 (Nat.not_lt_zero _)⟩, Nat.zero_le _, List.Pairwise.nil⟩ fun x ps hx ⟨h5, l5, o5⟩ => by
    obtain ⟨r, er, lr, hr⟩ := hT2.row hx
    unfold tb3_law_space
    rw [ll, gd_ok (by omega), gd_ok (by rw [List.length_range]; omega), lcO_eq (c1 := fun y => decide (ent T2 x y = 1)) (v1 := fun y => (x, y)) fun y hy => by
      have hy := List.mem_range.mp hy
      exact ⟨by rw [er, Option.bind_some, hr y hy, Option.bind_some], fun _ => rfl⟩]
    obtain ⟨F, hF⟩ : ∃ F, F = ((List.range n).filter fun y => decide (ent T2 x y = 1)).map fun y => (x, y) := ⟨_, rfl⟩
    have fl : F.length ≤ n := by
      rw [hF, List.length_map]
      have := List.length_filter_le (fun y => decide (ent T2 x y = 1)) (List.range n)
      rwa [List.length_range] at this
    have l6 : x * n ≤ 64 * 64 := Nat.mul_le_mul (by omega) hn
    rw [Option.bind_some, ← hF, gd_ok (by omega), lett_is]
    refine ⟨_, rfl, fun p => ?_, ?_, ?_⟩
    · rw [List.mem_append, h5 p, hF]
      constructor
      · rintro (⟨a, b, c⟩ | h)
        · exact ⟨by omega, b, c⟩
        · obtain ⟨y, hy, rfl⟩ := List.mem_map.mp h
          obtain ⟨y1, y2⟩ := List.mem_filter.mp hy
          exact ⟨Nat.lt_succ_self _, List.mem_range.mp y1, of_decide_eq_true y2⟩
      · rintro ⟨a, b, c⟩
        by_cases q : p.1 = x
        · refine .inr (List.mem_map.mpr ⟨p.2, List.mem_filter.mpr ⟨List.mem_range.mpr b, decide_eq_true (by rw [← q]; exact c)⟩, by rw [← q]⟩)
        · exact .inl ⟨by omega, b, c⟩
    · rw [List.length_append, Nat.succ_mul]
      omega
    · refine List.pairwise_append.mpr ⟨o5, ?_, fun p hp q hq => ?_⟩
      · rw [hF, List.pairwise_map]
        exact (List.Pairwise.filter _ List.pairwise_lt_range).imp fun h => .inr ⟨rfl, h⟩
      · rw [hF] at hq
        obtain ⟨y, _, rfl⟩ := List.mem_map.mp hq
        exact .inl ((h5 p).mp hp).1
  rw [e5, Option.bind_some, lett_is]
  exact ⟨_, rfl, rfl, hT2, hL, h5, o5, l5⟩
theorem floors_ok (st : PO) {n w : Nat} (hn : n ≤ 64) (h0 : 0 < w) (h1 : w < 1000000000) : ∃ sp st', t_law_floors st n w = some (sp, st') ∧ Good n sp := by
  unfold t_law_floors
  rw [gd_ok (by omega), gd_ok (by rw [List.length_range]; omega)]
  have u : ∃ U, (lcO (fun i2 : Nat =>  some true) (fun i2 : Nat => (gd (n ≤ 400000) <| gd ((List.range n).length ≤ 400000) <| (lcO (fun j4 : Nat =>  some true) (fun j4 : Nat => (gd (0 < w ∧ w < 1000000000) <| gd (0 < w ∧ w < 1000000000) <| some ((decide ((i2 / w) < (j4 / w)))).toNat : Option Nat)) (List.range n)).bind fun r8 => some r8 : Option (List Nat))) (List.range n)) = some U ∧ Mat n U := by
    refine ⟨_, lcO_map (v1 := fun i => (List.range n).map fun j => ((decide ((i / w) < (j / w)))).toNat) fun x _ => by
      rw [gd_ok (by omega), gd_ok (by rw [List.length_range]; omega), lcO_map (v1 := fun j => ((decide ((x / w) < (j / w)))).toNat) fun y _ => by rw [gd_ok ⟨h0, h1⟩, gd_ok ⟨h0, h1⟩]]
      rfl, by rw [List.length_map, List.length_range], fun r hr => ?_⟩
    obtain ⟨_, _, rfl⟩ := List.mem_map.mp hr
    rw [List.length_map, List.length_range]
  obtain ⟨U, e, hU⟩ := u
  rw [e, Option.bind_some]
  obtain ⟨L, s1, e1, hL⟩ := names_ok st (n := n) (by omega)
  rw [e1, Option.bind_some]
  obtain ⟨sp, e2, g⟩ := space_ok hn hL hU
  rw [show t_law_space (L, s1).1 U = some sp from e2, Option.bind_some]
  exact ⟨_, _, rfl, g⟩
theorem drawn_ok (st : PO) {n : Nat} (hn : n ≤ 64) : ∃ sp st', t_law_drawn st n = some (sp, st') ∧ Good n sp := by
  unfold t_law_drawn
  obtain ⟨d, s1, e1, hd⟩ := take_ok st (m := 6) (by omega) (by omega)
  rw [e1, Option.bind_some]
  split
  · obtain ⟨d2, s2, e2, hd2⟩ := take_ok s1 (m := n + 1) (by omega) (by omega)
    rw [show t_law_take (d, s1).2 (n + 1) = _ from e2, Option.bind_some]
    obtain ⟨sp, s3, e3, g⟩ := floors_ok s2 hn (w := 1 + d2) (by omega) (by omega)
    rw [show t_law_floors (d2, s2).2 n (1 + (d2, s2).1) = _ from e3, Option.bind_some]
    exact ⟨_, _, rfl, g⟩
  · rename_i c
    have c2 : 2 ≤ d := by
      have : ¬ d < 2 := fun h => c (decide_eq_true h)
      omega
    rw [gd_ok (by omega), gd_ok (by rw [List.length_range]; omega)]
    obtain ⟨T, e, hT⟩ := zero_ok (n := n) (by omega)
    rw [e, Option.bind_some, gd_ok (by omega)]
    obtain ⟨q, e2, hq⟩ := forO_rng (f := tb2_law_drawn n (d, s1)) (n := n) (a0 := ((d, s1).2, T)) (fun _ q => Mat n q.2) hT fun i q hi hq => by
      obtain ⟨row, e3, _, _⟩ := hq.row hi
      unfold tb2_law_drawn
      rw [e3, Option.bind_some, gd_ok (by omega), gd_ok (by omega)]
      obtain ⟨q2, e4, h4⟩ := forO_mem (f := tb1_law_drawn (d, s1) i) (xs := rng (i + 1) n) (a0 := (q.1, q.2)) (fun q => Mat n q.2) hq fun j hj q hq => by
        have hj : j < n := by
          unfold rng at hj
          obtain ⟨k, hk, rfl⟩ := List.mem_map.mp hj
          have := List.mem_range.mp hk
          omega
        obtain ⟨r, er, lr, _⟩ := hq.row hi
        have w : ∀ k : Nat, k < 4 → ∃ v, ([2, 3, 4, 6] : List Nat)[k]? = some v ∧ 0 < v ∧ v < 1000000000 := fun k hk => by
          match k, hk with
          | 0, _ => exact ⟨2, rfl, by omega, by omega⟩
          | 1, _ => exact ⟨3, rfl, by omega, by omega⟩
          | 2, _ => exact ⟨4, rfl, by omega, by omega⟩
          | 3, _ => exact ⟨6, rfl, by omega, by omega⟩
        obtain ⟨v, hv, v0, v1⟩ := w (d - 2) (by omega)
        obtain ⟨d3, s3, e5, _⟩ := take_ok q.1 v0 v1
        unfold tb1_law_drawn
        rw [gd_ok c2, show ([2, 3, 4, 6] : List Nat)[(d, s1).1 - 2]? = some v from hv, Option.bind_some, e5, Option.bind_some, er, Option.bind_some, gd_ok (by rw [lr]; exact hj), lett_is]
        exact ⟨_, rfl, hq.set (by rw [List.length_set]; exact lr)⟩
      rw [e4]
      exact ⟨_, rfl, h4⟩
    rw [e2, Option.bind_some, gd_ok (by omega)]
    obtain ⟨T2, e6, hT2⟩ := forO_rng (f := tb4_law_drawn n) (n := n) (a0 := q.2) (fun _ q => Mat n q) hq fun k q hk hq => by
      unfold tb4_law_drawn
      rw [gd_ok (by omega)]
      obtain ⟨q2, e4, h4⟩ := forO_rng (f := tb3_law_drawn n k) (n := k) (a0 := q) (fun _ q => Mat n q) hq fun i q hi hq => by
        obtain ⟨r, er, lr, hr⟩ := hq.row (x := i) (by omega)
        obtain ⟨r2, er2, lr2, hr2⟩ := hq.row hk
        unfold tb3_law_drawn
        rw [er, Option.bind_some, hr k hk, Option.bind_some]
        split
        · rw [gd_ok (by omega), gd_ok (by rw [List.length_range]; omega), lcO_map (v1 := fun j => ((decide (0 < (ent q i j + ent q k j)))).toNat) fun y hy => by
            have hy := List.mem_range.mp hy
            rw [Option.bind_some, hr y hy, Option.bind_some, er2, Option.bind_some, hr2 y hy, Option.bind_some], Option.bind_some, lett_is, gd_ok (by rw [hq.1]; omega), lett_is]
          exact ⟨_, rfl, hq.set (by rw [List.length_map, List.length_range])⟩
        · exact ⟨_, rfl, hq⟩
      rw [e4]
      exact ⟨_, rfl, h4⟩
    rw [e6, Option.bind_some]
    obtain ⟨L, s4, e7, hL⟩ := names_ok q.1 (n := n) (by omega)
    rw [e7, Option.bind_some]
    obtain ⟨sp, e8, g⟩ := space_ok hn hL hT2
    rw [show t_law_space (L, s4).1 T2 = some sp from e8, Option.bind_some]
    exact ⟨_, _, rfl, g⟩
end Mi.k10
set_option maxHeartbeats 2000000
namespace Mi.k10
open PySem L2
def lq (sp : SP) (a b : Nat) : Bool := decide (a = b) || decide (ent sp.2.1 a b = 1)
theorem leq_ok {m : Nat} {sp : SP} (g : Good m sp) {a b : Nat} (ha : a < m) (hb : b < m) : t_law_leq sp a b = some (lq sp a b) := by
  unfold t_law_leq lq
  by_cases c : a = b
  · rw [if_pos (decide_eq_true c), decide_eq_true c]
    rfl
  · obtain ⟨r, e, _, hr⟩ := g.mt.row ha
    rw [if_neg (by rw [decide_eq_false c]; decide), decide_eq_false c, e, Option.bind_some, hr b hb]
    rfl
abbrev nint : Nat → PV := fun (q : Nat) => (PV.int ((q : Nat) : Int))
theorem get_row {n m : Nat} {row : List Nat} (l : row.length = n) (h : ∀ v ∈ row, v < m) {x : Nat} (hx : x < n) : row[x]? = some (row[x]?.getD 0) ∧ row[x]?.getD 0 < m := by
  have hl : x < row.length := by omega
  rw [List.getElem?_eq_getElem hl]
  exact ⟨rfl, h _ (List.getElem_mem hl)⟩
def Row (n m : Nat) (row : List Nat) : Prop := row.length = n ∧ ∀ v ∈ row, v < m
theorem Row.set {n m : Nat} {row : List Nat} (h : Row n m row) {x v : Nat} (hv : v < m) : Row n m (row.set x v) := ⟨by rw [List.length_set]; exact h.1, fun z hz => by
  rcases List.mem_or_eq_of_mem_set hz with q | q
  · exact h.2 z q
  · rw [q]; exact hv⟩
theorem bounds_ok {m : Nat} {sp : SP} (g : Good m sp) {vs : List Nat} (hl : vs.length ≤ 64) (hv : ∀ v ∈ vs, v < m) {q : Nat} (hq : q < m) : ∃ b, t_law_bounds sp vs q = some b := by
  unfold t_law_bounds
  rw [gd_ok (by omega), lcO_eq (c1 := fun o => !lq sp o q) (v1 := fun o => o) fun o ho => ⟨by rw [leq_ok g (hv o ho) hq]; rfl, fun _ => rfl⟩]
  exact ⟨_, rfl⟩
theorem map_ok (st : PO) {n m : Nat} (hn : n ≤ 64) (hm : m ≤ 64) (h0 : 0 < n → 0 < m) {s1 s2 : SP} (g1 : Good n s1) (g2 : Good m s2) : ∃ row st', t_law_map st s1 s2 = some (row, st') ∧ Row n m row := by
  have ll : s1.2.2.length = n := by rw [g1.nm.length_eq, List.length_range]
  have lt : ∀ v ∈ s1.2.2, v < n := fun v h => List.mem_range.mp (g1.nm.mem_iff.mp h)
  unfold t_law_map
  rw [gd_ok (by omega), lett_is, gd_ok (by omega)]
  have lp := forR_inv (f := tb1_law_map s1 s2) (xs := List.range s1.2.2.length) (a0 := (st, s1.2.2.map fun _ => 0)) (fun _ q => Row n m q.2) (fun r => Row n m r.1) ⟨by rw [List.length_map]; exact ll, fun v hv => by
    obtain ⟨x, hx, rfl⟩ := List.mem_map.mp hv
    have := lt x hx
    exact h0 (by omega)⟩ fun i x q hx hq => by
    have hi : i < n := by
      have := (List.getElem?_eq_some_iff.mp hx).1
      rwa [List.length_range, ll] at this
    have hx : x = i := by
      have := List.getElem?_eq_some_iff.mp hx
      obtain ⟨_, e⟩ := this
      rw [List.getElem_range] at e
      exact e.symm
    subst hx
    have mp := h0 (by omega)
    have hl : x < s1.2.2.length := by omega
    have hw : s1.2.2[x] < n := lt _ (List.getElem_mem _)
    have tl : (s1.2.2.take x).length ≤ 64 := by
      rw [List.length_take]
      omega
    unfold tb1_law_map
    rw [gd_ok (by omega), lcO_eq (c1 := fun y => decide (ent s1.2.1 y s1.2.2[x] = 1)) (v1 := fun y => q.2[y]?.getD 0) fun y hy => by
      have hy := lt y (List.mem_of_mem_take hy)
      obtain ⟨r, e, _, hr⟩ := g1.mt.row hy
      refine ⟨by rw [e, Option.bind_some, List.getElem?_eq_getElem hl, Option.bind_some, hr _ hw]; rfl, fun _ => ?_⟩
      rw [(get_row hq.1 hq.2 hy).1]
      rfl]
    obtain ⟨V, hV⟩ : ∃ V, V = ((s1.2.2.take x).filter fun y => decide (ent s1.2.1 y s1.2.2[x] = 1)).map fun y => q.2[y]?.getD 0 := ⟨_, rfl⟩
    have vl : V.length ≤ 64 := by
      rw [hV, List.length_map]
      exact Nat.le_trans (List.length_filter_le _ _) tl
    have vm : ∀ v ∈ V, v < m := fun v hv => by
      rw [hV] at hv
      obtain ⟨y, hy, rfl⟩ := List.mem_map.mp hv
      exact (get_row hq.1 hq.2 (lt y (List.mem_of_mem_take (List.mem_filter.mp hy).1))).2
    rw [Option.bind_some, ← hV, g2.n1, gd_ok (by omega), gd_ok (by rw [List.length_range]; omega)]
    have fit : ∃ F, (lcO (fun q_20 : Nat => (t_law_bounds s2 V q_20).bind fun r21 => some r21) (fun q_20 : Nat => ( some q_20 : Option Nat)) (List.range m)) = some F ∧ F.length ≤ m ∧ ∀ v ∈ F, v < m := by
      have ch : ∀ z, ∃ b, z < m → t_law_bounds s2 V z = some b := fun z => by
        by_cases c : z < m
        · obtain ⟨b, e⟩ := bounds_ok g2 vl vm c
          exact ⟨b, fun _ => e⟩
        · exact ⟨true, fun h => absurd h c⟩
      refine ⟨_, lcO_eq (c1 := fun z => (ch z).choose) (v1 := fun z => z) fun z hz => ⟨(congrArg (fun o => o.bind fun r21 => some r21) ((ch z).choose_spec (List.mem_range.mp hz))).trans rfl, fun _ => rfl⟩, ?_, fun v hv => ?_⟩
      · rw [List.length_map]
        refine Nat.le_trans (List.length_filter_le _ _) ?_
        rw [List.length_range]
        exact Nat.le_refl _
      · obtain ⟨z, hz, rfl⟩ := List.mem_map.mp hv
        exact List.mem_range.mp (List.mem_filter.mp hz).1
    obtain ⟨F, eF, lF, hF⟩ := fit
    rw [eF, Option.bind_some]
    by_cases c : F.length = 0
    · obtain ⟨d, s3, e3, hd⟩ := take_ok q.1 (m := m) mp (by omega)
      rw [if_pos (decide_eq_true c), e3, Option.bind_some, gd_ok (by omega)]
      refine .inr ⟨_, rfl, by rw [List.length_map]; exact ll, fun v hv => ?_⟩
      obtain ⟨_, _, rfl⟩ := List.mem_map.mp hv
      exact hd
    · obtain ⟨d, s3, e3, hd⟩ := take_ok q.1 (m := F.length) (by omega) (by omega)
      rw [if_neg (by rw [decide_eq_false c]; decide), e3, Option.bind_some, List.getElem?_eq_getElem hd, Option.bind_some, List.getElem?_eq_getElem hl, Option.bind_some, gd_ok (by rw [hq.1]; exact hw), lett_is]
      exact .inl ⟨_, rfl, hq.set (hF _ (List.getElem_mem _))⟩
  rcases lp with ⟨b, e, hb⟩ | ⟨r, e, hr⟩
  · rw [lpB_nx e]
    exact ⟨_, _, rfl, hb⟩
  · rw [lpB_rt e]
    exact ⟨_, _, rfl, hr⟩
theorem fcons {α : Type} {P : α → Prop} {x : α} {xs : List α} (h : P x) (t : ∀ y ∈ xs, P y) : ∀ y ∈ x :: xs, P y := List.forall_mem_cons.mpr ⟨h, t⟩
theorem fnil {α : Type} {P : α → Prop} : ∀ y ∈ ([] : List α), P y := fun y h => (nomatch h)
theorem sm_row : ∀ xs : List Nat, sms 7 (xs.map nint) = true
  | [] => by simp [sms]
  | x :: xs => by
    show sms 7 (nint x :: xs.map nint) = true
    unfold sms
    rw [sm_row xs]
    simp [sm]
theorem same_row {xs ys : List Nat} (e : xs = ys) (l : xs.length ≤ 400000) : same_t (.tup (xs.map nint)) (.tup (ys.map nint)) = some true := by
  subst e
  refine same_ok rfl ?_
  unfold sm
  rw [sm_row, List.length_map, decide_eq_true l]
  rfl
theorem sizes_ok (st : PO) : ∃ (L : List Nat) (st' : PO), t_law_sizes st = some (L, st') ∧ L.length = 4 ∧ (∀ v ∈ L, v ≤ 7) ∧ ∃ c : Nat, ∀ k v : Nat, L[k]? = some v → if k < c then v = 0 else 0 < v := by
  unfold t_law_sizes
  rw [gd_ok (by rw [List.length_range]; omega)]
  obtain ⟨q, e, l, h⟩ := lcW_inv (f := fun (q6 : PO) (k1 : Nat) => ((t_law_take q6 7).bind fun r8 => some (some (1 + r8.1), r8.2) : Option (Option Nat × PO))) (xs := List.range 4) (a0 := st) (fun i acc _ => acc.length = i ∧ ∀ v ∈ acc, 0 < v ∧ v ≤ 7) ⟨rfl, fnil⟩ fun i x acc q hx ⟨l, h⟩ => by
    obtain ⟨d, s1, e1, hd⟩ := take_ok q (m := 7) (by omega) (by omega)
    rw [e1]
    refine ⟨_, rfl, by rw [List.length_append, l]; rfl, fun v hv => ?_⟩
    rcases List.mem_append.mp hv with h2 | h2
    · exact h v h2
    · rw [List.mem_singleton.mp h2]
      show 0 < 1 + d ∧ 1 + d ≤ 7
      omega
  rw [List.length_range] at l
  obtain ⟨d, s1, e1, hd⟩ := take_ok q.2 (m := 8) (by omega) (by omega)
  rw [e, Option.bind_some, e1, Option.bind_some]
  by_cases c : d = 0
  · obtain ⟨d2, s2, e2, hd2⟩ := take_ok s1 (m := 3) (by omega) (by omega)
    rw [if_pos (decide_eq_true c), show t_law_take (d, s1).2 3 = _ from e2, Option.bind_some, gd_ok (by show 1 + d2 ≤ _; omega)]
    obtain ⟨q2, e3, l3, h3, k3⟩ := forO_rng (f := tb2_law_sizes) (n := 1 + d2) (a0 := q.1) (fun i q => q.length = 4 ∧ (∀ v ∈ q, v ≤ 7) ∧ ∀ k v, q[k]? = some v → if k < i then v = 0 else 0 < v) ⟨l, fun v hv => (h v hv).2, fun k v hv => by rw [if_neg (Nat.not_lt_zero _)]; exact (h v (List.mem_of_getElem? hv)).1⟩ fun i q hi ⟨l3, h3, k3⟩ => by
      unfold tb2_law_sizes
      rw [gd_ok (by omega), lett_is]
      refine ⟨_, rfl, by rw [List.length_set]; exact l3, fun v hv => ?_, fun k v hv => ?_⟩
      · rcases List.mem_or_eq_of_mem_set hv with q | q
        · exact h3 v q
        · omega
      · by_cases c : i = k
        · subst c
          rw [List.getElem?_set_self (by omega)] at hv
          rw [if_pos (Nat.lt_succ_self _)]
          exact (Option.some.inj hv).symm
        · rw [List.getElem?_set_ne c] at hv
          have := k3 k v hv
          by_cases c2 : k < i
          · rw [if_pos c2] at this
            rw [if_pos (by omega)]
            exact this
          · rw [if_neg c2] at this
            rw [if_neg (by omega)]
            exact this
    rw [show forO tb2_law_sizes (List.range (1 + (d2, s2).1)) q.1 = _ from e3]
    exact ⟨_, _, rfl, l3, h3, _, k3⟩
  · rw [if_neg (by rw [decide_eq_false c]; decide)]
    exact ⟨_, _, rfl, l, fun v hv => (h v hv).2, 0, fun k v hv => by rw [if_neg (Nat.not_lt_zero _)]; exact (h v (List.mem_of_getElem? hv)).1⟩
def cmp (row aft : List Nat) : List Nat := row.map fun v => aft[v]?.getD 0
theorem cmp_row {n m k : Nat} {a b : List Nat} (ha : Row n m a) (hb : Row m k b) : Row n k (cmp a b) := ⟨by unfold cmp; rw [List.length_map]; exact ha.1, fun v hv => by
  obtain ⟨x, hx, rfl⟩ := List.mem_map.mp hv
  exact (get_row hb.1 hb.2 (ha.2 x hx)).2⟩
theorem compose_ok {n m k : Nat} (hn : n ≤ 64) {a b : List Nat} (ha : Row n m a) (hb : Row m k b) : t_compose a b = some (cmp a b) := by
  unfold t_compose
  rw [gd_ok (by rw [ha.1]; omega), lcO_map (v1 := fun v => b[v]?.getD 0) fun v hv => by rw [(get_row hb.1 hb.2 (ha.2 v hv)).1]; rfl]
  rfl
theorem composed_ok {n m k : Nat} (hn : n ≤ 64) {a b : List Nat} (ha : Row n m a) (hb : Row m k b) : t_law_composed a b = some (cmp a b) := by
  unfold t_law_composed
  obtain ⟨q, e, h⟩ := forO_inv (f := tb1_law_composed b) (xs := a) (a0 := []) (fun i q => q = cmp (a.take i) b) rfl fun i x q hx hq => by
    have hi := (List.getElem?_eq_some_iff.mp hx).1
    have hl : q.length ≤ 64 := by
      rw [hq]
      unfold cmp
      rw [List.length_map, List.length_take, ha.1]
      omega
    unfold tb1_law_composed
    rw [(get_row hb.1 hb.2 (ha.2 x (List.mem_of_getElem? hx))).1, Option.bind_some, gd_ok (by show q.length + 1 ≤ _; omega), lett_is]
    refine ⟨_, rfl, ?_⟩
    rw [hq, List.take_succ, hx]
    unfold cmp
    rw [List.map_append]
    rfl
  rw [e, h, List.take_length]
  rfl
theorem ident_ok {n : Nat} (hn : n ≤ 64) {sp : SP} (g : Good n sp) : t_identity_map sp.1 = some (List.range n) := by
  unfold t_identity_map
  rw [g.n1, gd_ok (by omega)]
theorem id_row {n : Nat} : Row n n (List.range n) := ⟨List.length_range, fun v hv => List.mem_range.mp hv⟩
theorem cmp_id {n m : Nat} {a : List Nat} (ha : Row n m a) : cmp (List.range n) a = a := by
  unfold cmp
  apply List.ext_getElem
  · rw [List.length_map, List.length_range, ha.1]
  · intro i h1 h2
    rw [List.getElem_map, List.getElem_range, List.getElem?_eq_getElem h2]
    rfl
theorem id_cmp {n m : Nat} {a : List Nat} (ha : Row n m a) : cmp a (List.range m) = a := by
  unfold cmp
  have : a.map (fun v => (List.range m)[v]?.getD 0) = a.map id := List.map_congr_left fun v hv => by
    rw [List.getElem?_range (ha.2 v hv)]
    rfl
  rw [this, List.map_id]
theorem turns_ok (st : PO) {n : Nat} (hn : n ≤ 64) {sp : SP} (g : Good n sp) : ∃ st', t_law_turns_right st sp = some (true, st') := by
  unfold t_law_turns_right
  obtain ⟨a, s1, e1, ha⟩ := map_ok st hn hn (fun h => h) g g
  obtain ⟨b, s2, e2, hb⟩ := map_ok s1 hn hn (fun h => h) g g
  rw [e1, Option.bind_some, show t_law_map (a, s1).2 sp sp = _ from e2, Option.bind_some, show t_compose (a, s1).1 (b, s2).1 = _ from compose_ok hn ha hb, Option.bind_some, show t_law_composed (a, s1).1 (b, s2).1 = _ from composed_ok hn ha hb, Option.bind_some]
  have l1 : (cmp a b).length ≤ 400000 := by rw [(cmp_row ha hb).1]; omega
  have l2 : (cmp b a).length ≤ 400000 := by rw [(cmp_row hb ha).1]; omega
  rw [show same_t (PV.tup ((cmp a b).map (fun (q : Nat) => (PV.int ((q : Nat) : Int))))) (PV.tup ((cmp a b).map (fun (q : Nat) => (PV.int ((q : Nat) : Int))))) = _ from same_row rfl l1, Option.bind_some, if_neg (by decide), show t_compose (b, s2).1 (a, s1).1 = _ from compose_ok hn hb ha, Option.bind_some, show t_law_composed (b, s2).1 (a, s1).1 = _ from composed_ok hn hb ha, Option.bind_some, show same_t (PV.tup ((cmp b a).map (fun (q : Nat) => (PV.int ((q : Nat) : Int))))) (PV.tup ((cmp b a).map (fun (q : Nat) => (PV.int ((q : Nat) : Int))))) = _ from same_row rfl l2, Option.bind_some]
  exact ⟨_, rfl⟩
theorem rises_ok {n m : Nat} {s1 s2 : SP} (g1 : Good n s1) (g2 : Good m s2) {row : List Nat} (hr : Row n m row) : ∃ b, t_law_rises s1 s2 row = some b := by
  unfold t_law_rises
  have e := forR_find (f := tb1_law_rises s2 row) (xs := s1.1.2) (fun p => !lq s2 (row[p.1]?.getD 0) (row[p.2]?.getD 0)) (fun _ => false) fun p hp => by
    obtain ⟨a, b, _⟩ := (g1.pr p).mp hp
    obtain ⟨e1, b1⟩ := get_row hr.1 hr.2 a
    obtain ⟨e2, b2⟩ := get_row hr.1 hr.2 b
    unfold tb1_law_rises
    rw [e1, Option.bind_some, e2, Option.bind_some, leq_ok g2 b1 b2, Option.bind_some]
    rfl
  rw [e]
  cases s1.1.2.find? (fun p => !lq s2 (row[p.1]?.getD 0) (row[p.2]?.getD 0)) <;> exact ⟨_, rfl⟩
theorem moved_ok (st : PO) {n m : Nat} (hn : n ≤ 64) (hm : m ≤ 64) (h0 : 0 < n → 0 < m) {s1 s2 : SP} (g1 : Good n s1) (g2 : Good m s2) {row : List Nat} (hr : Row n m row) (up : Bool) : ∃ row2 st', t_law_moved st s1 s2 row up = some (row2, st') ∧ Row n m row2 := by
  unfold t_law_moved
  obtain ⟨d, s3, e3, hd⟩ := take_ok st (m := 8) (by omega) (by omega)
  rw [e3, Option.bind_some]
  have hc : (decide (0 < row.length)).toNat ≤ 1 := by cases decide (0 < row.length) <;> decide
  have hk2 : d * (decide (0 < row.length)).toNat ≤ 7 * 1 := Nat.mul_le_mul (by omega) hc
  rw [gd_ok (.inl ⟨by show _ < ((d : Nat) : Int); omega, by show ((d : Nat) : Int) < _; omega⟩), gd_ok (by show d * (decide (0 < row.length)).toNat ≤ _; omega)]
  obtain ⟨q, e, hq⟩ := forO_mem (f := tb1_law_moved s1 s2 row up) (xs := List.range (d * (decide (0 < row.length)).toNat)) (a0 := (row, s3)) (fun q => Row n m q.1) hr fun i hi q hq => by
    have hi := List.mem_range.mp hi
    have l := hr.1
    have pos : 0 < n := by
      rcases Nat.eq_zero_or_pos n with c | c
      · rw [l, c] at hi
        exact absurd hi (Nat.not_lt_zero _)
      · exact c
    have := h0 pos
    obtain ⟨x, s4, e4, hx⟩ := take_ok q.2 (m := row.length) (by omega) (by omega)
    obtain ⟨v, s5, e5, hv⟩ := take_ok s4 (m := m) (by omega) (by omega)
    have hx2 : x < q.1.length := by rw [hq.1, ← l]; exact hx
    have lt : (q.1.take x).length = x := by rw [List.length_take]; omega
    have ld : (q.1.drop (x + 1)).length = q.1.length - (x + 1) := List.length_drop
    have ho : Row n m (((q.1.take x) ++ [v]) ++ (q.1.drop (x + 1))) := by
      refine ⟨?_, fun z hz => ?_⟩
      · rw [List.length_append, List.length_append, lt, ld]
        show x + 1 + _ = _
        have := hq.1
        omega
      · rcases List.mem_append.mp hz with h | h
        · rcases List.mem_append.mp h with h | h
          · exact hq.2 z (List.mem_of_mem_take h)
          · rw [List.mem_singleton.mp h]; exact hv
        · exact hq.2 z (List.mem_of_mem_drop h)
    have q1 := hq.1
    unfold tb1_law_moved
    rw [e4, Option.bind_some, g2.n1, show t_law_take (x, s4).2 m = _ from e5, Option.bind_some, gd_ok (by show (q.1.take x).length + 1 ≤ _; omega), gd_ok (by rw [List.length_append]; show (q.1.take x).length + 1 + (q.1.drop (x + 1)).length ≤ _; omega), lett_is]
    obtain ⟨e6, b6⟩ := get_row hq.1 hq.2 (x := x) (by omega)
    rw [show q.1[(x, s4).1]? = _ from e6, Option.bind_some, Option.bind_some]
    obtain ⟨b, eb⟩ := rises_ok g1 g2 ho
    have w : ∃ u w : Nat, ([[(v, s5).1, q.1[x]?.getD 0], [q.1[x]?.getD 0, (v, s5).1]] : List (List Nat))[up.toNat]? = some [u, w] ∧ u < m ∧ w < m := by
      cases up
      · exact ⟨_, _, rfl, hv, b6⟩
      · exact ⟨_, _, rfl, b6, hv⟩
    obtain ⟨u, w, ew, hu, hw⟩ := w
    rw [ew, Option.bind_some, show ([u, w] : List Nat)[0]? = some u from rfl, Option.bind_some, show ([u, w] : List Nat)[1]? = some w from rfl, Option.bind_some, leq_ok g2 hu hw, Option.bind_some]
    have c0 : ∃ c, (if lq s2 u w = true then ((t_law_rises s1 s2 ((q.1.take x ++ [v]) ++ q.1.drop (x + 1))).bind fun r26 => some r26) else (some false)) = some c := by
      split
      · rw [eb]
        exact ⟨_, rfl⟩
      · exact ⟨_, rfl⟩
    obtain ⟨c, ec⟩ := c0
    rw [show (if lq s2 u w = true then ((t_law_rises s1 s2 ((q.1.take (x, s4).1 ++ [(v, s5).1]) ++ q.1.drop ((x, s4).1 + 1))).bind fun r26 => some r26) else (some false)) = some c from ec, Option.bind_some]
    cases c
    · exact ⟨_, rfl, hq⟩
    · exact ⟨_, rfl, ho⟩
  rw [show forO (tb1_law_moved s1 s2 row up) (List.range ((d, s3).1 * (decide (0 < row.length)).toNat)) (row, (d, s3).2) = _ from e]
  exact ⟨_, _, rfl, hq⟩
theorem below_ok {n : Nat} (hn : n ≤ 64) {sp : SP} (g : Good n sp) {x y : Nat} (hx : x < n) (hy : y < n) : t_is_below sp.1 x y = some (decide (ent sp.2.1 x y = 1)) := by
  obtain ⟨P, hP⟩ : ∃ P, P = sp.1.2 := ⟨_, rfl⟩
  have S := g.so
  have hl : P.length ≤ 64 * 64 := Nat.le_trans (by rw [hP]; exact g.ln) (Nat.mul_le_mul hn hn)
  have gp := g.pr
  unfold t_is_below
  rw [← hP] at S gp ⊢
  obtain ⟨q, e, ⟨c2, c3, c4, c5⟩, cf⟩ := whO_inv (c := tb1_is_below) (f := tb2_is_below sp.1 x y) (n := 1000000) (a0 := (0, P.length)) (fun q => q.1 ≤ q.2 ∧ q.2 ≤ P.length ∧ (∀ i p, i < q.1 → P[i]? = some p → ltq p (x, y)) ∧ ∀ i p, q.2 ≤ i → P[i]? = some p → ¬ ltq p (x, y)) (fun q => q.2 - q.1) (fun q ⟨c2, c3, c4, c5⟩ => by
    refine ⟨_, rfl, fun hc => ?_⟩
    have hc := of_decide_eq_true hc
    obtain ⟨mi, hmi⟩ : ∃ mi, mi = (q.1 + q.2) / 2 := ⟨_, rfl⟩
    have hlt : mi < P.length := by omega
    have ep := List.getElem?_eq_getElem hlt
    unfold tb2_is_below
    rw [lett_is, ← hmi, ← hP, ep, Option.bind_some]
    by_cases cl : ltq P[mi] (x, y)
    · rw [if_pos (decide_eq_true cl), lett_is]
      refine ⟨_, rfl, ⟨by show mi + 1 ≤ q.2; omega, c3, fun i p hi ei => ?_, c5⟩, by show q.2 - (mi + 1) < _; omega⟩
      have hi : i < mi + 1 := hi
      rcases Nat.lt_or_ge i mi with z | z
      · exact ltq_tr (ss_q S z ei ep) cl
      · have : i = mi := by omega
        subst this
        rw [ep] at ei
        cases ei
        exact cl
    · rw [if_neg (by rw [decide_eq_false cl]; decide)]
      refine ⟨_, rfl, ⟨by show q.1 ≤ mi; omega, by show mi ≤ _; omega, c4, fun i p hi ei z => ?_⟩, by show mi - q.1 < _; omega⟩
      have hi : mi ≤ i := hi
      rcases Nat.lt_or_ge mi i with w | w
      · exact cl (ltq_tr (ss_q S w ep ei) z)
      · have : i = mi := by omega
        subst this
        rw [ep] at ei
        cases ei
        exact cl z) ⟨Nat.zero_le _, Nat.le_refl _, fun i p hi => absurd hi (Nat.not_lt_zero _), fun i p hi ei => absurd (List.getElem?_eq_some_iff.mp ei).1 (by have hi : P.length ≤ i := hi; omega)⟩ (by show P.length - 0 < 1000000; omega)
  rw [lpB_nx e]
  have ce : q.1 = q.2 := by
    have : ¬ q.1 < q.2 := fun h => by
      have cf : some (decide (q.1 < q.2)) = some false := cf
      rw [decide_eq_true h] at cf
      cases cf
    omega
  by_cases c : q.1 < P.length
  · rw [if_pos (decide_eq_true c), List.getElem?_eq_getElem c]
    show some (decide (P[q.1] = (x, y))) = _
    congr 1
    refine decide_eq_decide.mpr ⟨fun h => ?_, fun h => ?_⟩
    · exact ((gp (x, y)).mp (by rw [← h]; exact List.getElem_mem _)).2.2
    · obtain ⟨i, hi, ei⟩ := List.getElem_of_mem ((gp (x, y)).mpr ⟨hx, hy, h⟩)
      have ei2 : P[i]? = some (x, y) := by rw [List.getElem?_eq_getElem hi, ei]
      have irr : ¬ ltq (x, y) (x, y) := fun h => by
        unfold ltq at h
        omega
      rcases Nat.lt_trichotomy i q.1 with z | z | z
      · exact absurd (c4 i _ z ei2) irr
      · subst z
        exact ei
      · have := ss_q S z (List.getElem?_eq_getElem c) ei2
        exact absurd this (c5 q.1 _ (by omega) (List.getElem?_eq_getElem c))
  · rw [if_neg (by rw [decide_eq_false c]; decide)]
    show some false = _
    congr 1
    refine (decide_eq_false fun h => ?_).symm
    obtain ⟨i, hi, ei⟩ := List.getElem_of_mem ((gp (x, y)).mpr ⟨hx, hy, h⟩)
    have ei2 : P[i]? = some (x, y) := by rw [List.getElem?_eq_getElem hi, ei]
    have := c4 i _ (by omega) ei2
    unfold ltq at this
    omega
def le (sp : SP) (low high : List Nat) : Bool := (List.range low.length).all fun x => lq sp (low[x]?.getD 0) (high[x]?.getD 0)
theorem is_most_ok {n m : Nat} (hn : n ≤ 64) {sp : SP} (g : Good m sp) {a b : List Nat} (ha : Row n m a) (hb : Row n m b) : t_law_is_most sp a b = some (le sp a b) := by
  unfold t_law_is_most
  have l := ha.1
  rw [gd_ok (by omega), gd_ok (by rw [List.length_range]; omega), lcO_eq (c1 := fun x => !lq sp (a[x]?.getD 0) (b[x]?.getD 0)) (v1 := fun x => x) fun x hx => by
    have hx := List.mem_range.mp hx
    obtain ⟨e1, b1⟩ := get_row ha.1 ha.2 (x := x) (by omega)
    obtain ⟨e2, b2⟩ := get_row hb.1 hb.2 (x := x) (by omega)
    exact ⟨by rw [e1, Option.bind_some, e2, Option.bind_some, leq_ok g b1 b2]; rfl, fun _ => rfl⟩, Option.bind_some, List.length_map]
  unfold le
  congr 1
  rw [Bool.eq_iff_iff, decide_eq_true_iff, List.length_eq_zero_iff, List.filter_eq_nil_iff, List.all_eq_true]
  constructor
  · intro h x hx
    have := h x hx
    rwa [Bool.not_eq_true, Bool.not_eq_false'] at this
  · intro h x hx
    rw [h x hx]
    decide
theorem at_most_ok {n m : Nat} (hn : n ≤ 64) (hm : m ≤ 64) {sp : SP} (g : Good m sp) {a b : List Nat} (ha : Row n m a) (hb : Row n m b) : t_at_most sp.1 a b = some (le sp a b) := by
  unfold t_at_most
  have e := forR_find (f := tb1_at_most sp.1 b) (xs := enu a) (fun p => !lq sp p.2 (b[p.1]?.getD 0)) (fun _ => false) fun p hp => by
    unfold enu at hp
    obtain ⟨z, hz, rfl⟩ := List.mem_map.mp hp
    have h1 := List.snd_lt_of_mem_zipIdx hz
    have h2 := List.fst_mem_of_mem_zipIdx hz
    obtain ⟨e2, b2⟩ := get_row hb.1 hb.2 (x := z.2) (by have := ha.1; omega)
    have h3 := ha.2 z.1 h2
    unfold tb1_at_most
    obtain ⟨w, hw⟩ : ∃ w, w = b[z.2]?.getD 0 := ⟨_, rfl⟩
    rw [← hw] at e2 b2
    show ((b[z.2]?).bind _) = if (!lq sp z.1 (b[z.2]?.getD 0)) = true then _ else _
    rw [e2, Option.bind_some, Option.bind_some]
    show _ = if (!lq sp z.1 w) = true then _ else _
    rw [show t_is_below sp.1 (z.2, z.1).2 w = _ from below_ok hm g h3 b2]
    unfold lq
    by_cases c : z.1 = w
    · rw [show (decide ((z.2, z.1).2 = w)) = true from decide_eq_true c]
      rfl
    · rw [show (decide ((z.2, z.1).2 = w)) = false from decide_eq_false c]
      rfl
  rw [e]
  have q : le sp a b = ((enu a).find? (fun p => !lq sp p.2 (b[p.1]?.getD 0))).isNone := by
    rw [Bool.eq_iff_iff, Option.isNone_iff_eq_none, List.find?_eq_none]
    unfold le
    rw [List.all_eq_true]
    constructor
    · intro h p hp
      unfold enu at hp
      obtain ⟨z, hz, rfl⟩ := List.mem_map.mp hp
      have h1 := List.snd_lt_of_mem_zipIdx hz
      have h2 : a[z.2]? = some z.1 := List.mem_zipIdx_iff_getElem?.mp hz
      have := h z.2 (List.mem_range.mpr (by omega))
      rw [h2] at this
      show ¬ (!lq sp z.1 (b[z.2]?.getD 0)) = true
      rw [show lq sp z.1 (b[z.2]?.getD 0) = true from this]
      decide
    · intro h x hx
      have hx := List.mem_range.mp hx
      have := h (x, a[x]) (List.mem_map.mpr ⟨(a[x], x), List.mem_zipIdx_iff_getElem?.mpr (List.getElem?_eq_getElem hx), rfl⟩)
      rw [List.getElem?_eq_getElem hx]
      show lq sp a[x] (b[x]?.getD 0) = true
      rwa [Bool.not_eq_true, Bool.not_eq_false'] at this
  rw [q]
  cases (enu a).find? (fun p => !lq sp p.2 (b[p.1]?.getD 0)) <;> rfl
theorem near_ok {n m : Nat} (hn : n ≤ 64) (hm : m ≤ 64) {sp : SP} (g : Good m sp) {a b : List Nat} (ha : Row n m a) (hb : Row n m b) : t_are_neighbours sp.1 a b = some (le sp a b || le sp b a) := by
  unfold t_are_neighbours
  rw [at_most_ok hn hm g ha hb, Option.bind_some, at_most_ok hn hm g hb ha]
  cases le sp a b <;> rfl
theorem pairs_ok {n m : Nat} (hn : n ≤ 64) (hm : m ≤ 64) {sp : SP} (g : Good m sp) {maps : List (List Nat)} (h : ∀ r ∈ maps, Row n m r) : t_law_pairs_right sp maps = some true := by
  unfold t_law_pairs_right
  have wh : ∀ b, t_law_whether b b = some true := fun b => by cases b <;> rfl
  have lp := forR_inv (f := tb2_law_pairs_right sp maps) (xs := maps) (a0 := ()) (fun _ _ => True) (fun _ => False) trivial fun i a q ha _ => by
    have ha := h a (List.mem_of_getElem? ha)
    unfold tb2_law_pairs_right
    have lp := forR_inv (f := tb1_law_pairs_right sp a) (xs := maps) (a0 := ()) (fun _ _ => True) (fun _ => False) trivial fun i b q hb _ => by
      have hb := h b (List.mem_of_getElem? hb)
      unfold tb1_law_pairs_right
      have c0 : (if le sp a b = true then (some true) else ((t_law_is_most sp b a).bind fun r11 => some r11)) = some (le sp a b || le sp b a) := by
        rw [is_most_ok hn g hb ha]
        cases le sp a b <;> rfl
      rw [is_most_ok hn g ha hb, Option.bind_some, c0, Option.bind_some, at_most_ok hn hm g ha hb, Option.bind_some, wh, Option.bind_some, if_neg (by decide), Option.bind_some, wh, Option.bind_some, if_neg (by decide), near_ok hn hm g ha hb, Option.bind_some, wh, Option.bind_some, if_neg (by decide), near_ok hn hm g hb ha, Option.bind_some, show (le sp b a || le sp a b) = (le sp a b || le sp b a) from Bool.or_comm .., wh, Option.bind_some, if_neg (by decide)]
      exact .inl ⟨_, rfl, trivial⟩
    rcases lp with ⟨b, e, _⟩ | ⟨r, _, hr⟩
    · rw [lpB_nx e]
      exact .inl ⟨_, rfl, trivial⟩
    · exact hr.elim
  rcases lp with ⟨b, e, _⟩ | ⟨r, _, hr⟩
  · rw [lpB_nx e]
  · exact hr.elim
end Mi.k10
set_option maxHeartbeats 2000000
namespace Mi.k10
open PySem L2
abbrev cPO := c_RX7cel_at_res_lef_odd_see_turFINNNBNN
abbrev cSP := c_RX3ord_und_namP2NVP2NNFFNFN
theorem same_r {xs ys : List Nat} (e : xs = ys) (l : xs.length ≤ 400000) {h : MH} : f_law_same [e_VN xs, e_VN ys] h = ok (.bl true) h := by
  have := same_tt (h := h) (same_row e l)
  rwa [show plv (.tup (xs.map nint)) = e_VN xs from (pv_V (f := nV) (xs := xs) (c := nint) fun q => rfl).symm, show plv (.tup (ys.map nint)) = e_VN ys from (pv_V (f := nV) (xs := ys) (c := nint) fun q => rfl).symm] at this
theorem cmp_get {a b : List Nat} {v : Nat} (h : v < a.length) : (cmp a b)[v]?.getD 0 = b[a[v]?.getD 0]?.getD 0 := by
  unfold cmp
  rw [List.getElem?_map, List.getElem?_eq_getElem h]
  rfl
theorem cmp_as {n m k j : Nat} {a b c : List Nat} (ha : Row n m a) (hb : Row m k b) (hc : Row k j c) : cmp (cmp a b) c = cmp a (cmp b c) := by
  show ((a.map fun v => b[v]?.getD 0).map fun v => c[v]?.getD 0) = a.map fun v => (cmp b c)[v]?.getD 0
  rw [List.map_map]
  refine List.map_congr_left fun v hv => ?_
  rw [cmp_get (by rw [hb.1]; exact ha.2 v hv)]
  rfl
theorem k4 {P : Nat → Prop} (h0 : P 0) (h1 : P 1) (h2 : P 2) (h3 : P 3) : ∀ k, k < 4 → P k := fun k hk => by
  match k, hk with
  | 0, _ => exact h0
  | 1, _ => exact h1
  | 2, _ => exact h2
  | 3, _ => exact h3
def Spaces (h : MH) (R : List Nat) (sp : Nat → SP) (n : Nat → Nat) : Prop := ∀ k, k < 4 → ∃ r, R[k]? = some r ∧ h[r]? = some (cSP (sp k)) ∧ Good (n k) (sp k) ∧ n k ≤ 64
theorem composes_ok {h : MH} {R : List Nat} {sp : Nat → SP} {n : Nat → Nat} (l : Spaces h R sp n) {rows : List (List Nat)} (hr : ∀ k, k < 3 → ∃ row, rows[k]? = some row ∧ Row (n k) (n (k + 1)) row) : f_law_composes_right [.fls (R.map MV.ref), .fls (rows.map e_VN)] h = ok (.bl true) h := by
  obtain ⟨row0, e0, h0⟩ := hr 0 (by omega)
  obtain ⟨row1, e1, h1⟩ := hr 1 (by omega)
  obtain ⟨row2, e2, h2⟩ := hr 2 (by omega)
  have n0 : n 0 ≤ 64 := (l 0 (by omega)).elim fun _ q => q.2.2.2
  have n1 : n 1 ≤ 64 := (l 1 (by omega)).elim fun _ q => q.2.2.2
  refine x_law_composes_right.trans (fn_go ?_)
  unfold m_law_composes_right
  refine W_forO (f := fun (_ : Unit) (k : Nat) => gd (k < 3) (some ())) (e := nV) (xs := List.range 3) (a0 := ()) (b := ()) (fun _ s3 h4 => s3 = [some (.fls (R.map MV.ref)), some (.fls (rows.map e_VN)), none, none, none, none, none, none, none, none] ∧ h = h4) (q_rng (n := 3) rfl (by omega)) ⟨rfl, rfl⟩ rfl (fun q k s h4 o ra e => ?_) (fun s1 h1' ra => ?_)
  · obtain ⟨rfl, rfl⟩ := ra
    obtain ⟨hk, e⟩ := gd_e e
    obtain rfl := some_e e
    obtain ⟨row, er, hrow⟩ := hr k hk
    obtain ⟨r1, er1, w1, g1, l1⟩ := l k (by omega)
    obtain ⟨r2, er2, w2, g2, l2⟩ := l (k + 1) (by omega)
    refine W_turn rfl ?_
    unfold b2_law_composes_right
    refine W_wip' ?_
    refine W_seq (setS_ok (y_ix (f := e_VN) (i := k) (x := row) (xs := rows) (r_var rfl) (r_var rfl) rfl er)) ?_
    have c1 := tt_identity_map (h := h) (ident_ok l1 g1)
    have c2 := tt_identity_map (h := h) (ident_ok l2 g2)
    refine W_seq (setS_ok (r_fls (r_lst (consA_ok (callM_ok (consA_ok (y_xget (y_ix (f := MV.ref) (i := k) (x := r1) (xs := R) (r_var rfl) (r_var rfl) rfl er1) rfl w1 rfl rfl) r_nil) c1) (consA_ok (callKM_ok r_nil (consA_ok (y_xget (y_ix (f := MV.ref) (i := k + 1) (x := r2) (xs := R) (r_var rfl) (r_add (i := k) (j := 1) (r_var rfl) rfl) rfl er2) rfl w2 rfl rfl) r_nil) ⟨rfl, rfl⟩ c2) r_nil)) (by show 2 ≤ 400000; omega)))) ?_
    have W : [List.range (n k), List.range (n (k + 1))].map e_VN = [e_VN (List.range (n k)), e_VN (List.range (n (k + 1)))] := rfl
    refine W_forO (f := fun (_ : Unit) (j : Nat) => gd (j < 2) (some ())) (e := nV) (xs := List.range 2) (a0 := ()) (b := ()) (fun _ s3 h4 => s3 = [some (.fls (R.map MV.ref)), some (.fls (rows.map e_VN)), some (nV k), some (e_VN row), some (.fls ([List.range (n k), List.range (n (k + 1))].map e_VN)), none, none, none, none, none] ∧ h = h4) (q_rng (n := 2) rfl (by omega)) ⟨rfl, rfl⟩ rfl (fun q j s h4 o ra e => ?_) (fun s1 h1' ra => ?_)
    · obtain ⟨rfl, rfl⟩ := ra
      obtain ⟨hj, e⟩ := gd_e e
      obtain rfl := some_e e
      obtain ⟨r3, er3, w3, g3, l3⟩ := l (k + j) (by omega)
      have ej : ([List.range (n k), List.range (n (k + 1))] : List (List Nat))[j]? = some (List.range (n (k + j))) := by
        match j, hj with
        | 0, _ => rfl
        | 1, _ => rfl
      refine W_turn rfl ?_
      unfold b1_law_composes_right
      refine W_wip' ?_
      have g3n := g3.n1
      refine W_f (r_not (r_tru (callM_ok (consA_ok (y_ix (f := e_VN) (i := j) (x := List.range (n (k + j))) (xs := [List.range (n k), List.range (n (k + 1))]) (r_var rfl) (r_var rfl) rfl ej) (consA_ok (y_rngT (r_ixt (i := 0) (x := nV (sp (k + j)).1.1) (y_xget (y_ix (f := MV.ref) (i := k + j) (x := r3) (xs := R) (r_var rfl) (r_add (i := k) (j := j) (r_var rfl) (r_var rfl)) rfl er3) rfl w3 rfl rfl) rfl rfl) (by rw [g3n]; omega)) r_nil)) (same_r (xs := List.range (n (k + j))) (by rw [g3n]) (by rw [List.length_range]; omega))))) rfl ?_
      exact W_nil ⟨_, rfl, _, _, .inl rfl, rfl, rfl⟩
    · obtain ⟨rfl, rfl⟩ := ra
      have c3 := tt_compose (h := h) (compose_ok l1 id_row hrow)
      have c4 := tt_compose (h := h) (compose_ok l1 hrow id_row)
      rw [cmp_id hrow] at c3
      rw [id_cmp hrow] at c4
      have sr : f_law_same [e_VN row, e_VN row] h = ok (.bl true) h := same_r rfl (by rw [hrow.1]; omega)
      refine W_f (y_orTf (r_not (r_tru (callM_ok (consA_ok (callM_ok (consA_ok (y_ix (f := e_VN) (i := 0) (x := List.range (n k)) (xs := [List.range (n k), List.range (n (k + 1))]) (r_var rfl) rfl rfl rfl) (consA_ok (r_var rfl) r_nil)) c3) (consA_ok (r_var rfl) r_nil)) sr))) rfl (r_not (r_tru (callM_ok (consA_ok (callKM_ok r_nil (consA_ok (r_var rfl) (consA_ok (y_ix (f := e_VN) (i := 1) (x := List.range (n (k + 1))) (xs := [List.range (n k), List.range (n (k + 1))]) (r_var rfl) rfl rfl rfl) r_nil)) ⟨rfl, rfl⟩ c4) (consA_ok (r_var rfl) r_nil)) sr)))) rfl ?_
      exact W_nil ⟨_, rfl, _, _, .inl rfl, rfl, rfl⟩
  · obtain ⟨rfl, rfl⟩ := ra
    have x0 : ∀ s, slot s 1 = some (.fls (rows.map e_VN)) → opM ixF (varM 1) (cM (.int 0)) s h = ok (e_VN row0) h := fun s q => y_ix (f := e_VN) (i := 0) (x := row0) (xs := rows) (r_var q) rfl rfl e0
    have x1 : ∀ s, slot s 1 = some (.fls (rows.map e_VN)) → opM ixF (varM 1) (cM (.int 1)) s h = ok (e_VN row1) h := fun s q => y_ix (f := e_VN) (i := 1) (x := row1) (xs := rows) (r_var q) rfl rfl e1
    have x2 : ∀ s, slot s 1 = some (.fls (rows.map e_VN)) → opM ixF (varM 1) (cM (.int 2)) s h = ok (e_VN row2) h := fun s q => y_ix (f := e_VN) (i := 2) (x := row2) (xs := rows) (r_var q) rfl rfl e2
    have h01 := cmp_row h0 h1
    have h12 := cmp_row h1 h2
    have d1 := tt_law_composed (h := h) (composed_ok n0 h0 h1)
    have d2 := tt_law_composed (h := h) (composed_ok n1 h1 h2)
    have d3 := tt_compose (h := h) (compose_ok n0 h0 h1)
    have d4 := tt_compose (h := h) (compose_ok n1 h1 h2)
    have d5 := tt_compose (h := h) (compose_ok n0 h01 h2)
    have d6 := tt_compose (h := h) (compose_ok n0 h0 h12)
    refine W_seq (setS_ok (callM_ok (consA_ok (x0 _ rfl) (consA_ok (x1 _ rfl) r_nil)) d1)) ?_
    refine W_seq (setS_ok (callM_ok (consA_ok (x1 _ rfl) (consA_ok (x2 _ rfl) r_nil)) d2)) ?_
    have s1 : f_law_same [e_VN (cmp row0 row1), e_VN (cmp row0 row1)] h = ok (.bl true) h := same_r rfl (by rw [h01.1]; omega)
    have s2 : f_law_same [e_VN (cmp row1 row2), e_VN (cmp row1 row2)] h = ok (.bl true) h := same_r rfl (by rw [h12.1]; omega)
    refine W_sf (y_orTf (r_not (r_tru (callM_ok (consA_ok (callM_ok (consA_ok (x0 _ rfl) (consA_ok (x1 _ rfl) r_nil)) d3) (consA_ok (r_var rfl) r_nil)) s1))) rfl (r_not (r_tru (callM_ok (consA_ok (callKM_ok r_nil (consA_ok (x2 _ rfl) (consA_ok (x1 _ rfl) r_nil)) ⟨rfl, rfl⟩ d4) (consA_ok (r_var rfl) r_nil)) s2)))) rfl ?_
    refine W_nils ?_
    have z : (lcM (seqI (varM 6)) [9] (one 9) yesT (opM ixF (opM ixF (varM 1) (cM (.int 2))) (varM 9))) [some (.fls (R.map MV.ref)), some (.fls (rows.map e_VN)), none, none, none, none, some (e_VN (cmp row0 row1)), some (e_VN (cmp row1 row2)), none, none] h = ok ((cmp (cmp row0 row1) row2).map nV) h := z_lcO (f := nV) (g := nV) (xs := cmp row0 row1) (c := fun _ => some true) (v := fun v => row2[v]?) (q_tup (r_var rfl)) (by rw [h01.1]; omega) (fun _ => rfl)
      (fun v b e => by
        obtain rfl := some_e e
        exact rfl)
      (fun v y e => y_ix (f := nV) (xs := row2) (i := v) (x2 _ rfl) (r_var rfl) rfl e) (lcO_map (v1 := fun v => row2[v]?.getD 0) fun v hv => (get_row h2.1 h2.2 (h01.2 v hv)).1)
    refine W_seq (setS_ok (r_tupf (r_fls z))) ?_
    have hd := cmp_row h01 h2
    have s3 : f_law_same [e_VN (cmp (cmp row0 row1) row2), e_VN (cmp (cmp row0 row1) row2)] h = ok (.bl true) h := same_r rfl (by rw [hd.1]; omega)
    have s4 : f_law_same [e_VN (cmp row0 (cmp row1 row2)), e_VN (cmp (cmp row0 row1) row2)] h = ok (.bl true) h := same_r (cmp_as h0 h1 h2).symm (by rw [← cmp_as h0 h1 h2, hd.1]; omega)
    refine W_ret (y_andVt (callM_ok (consA_ok (callM_ok (consA_ok (r_var rfl) (consA_ok (x2 _ rfl) r_nil)) d5) (consA_ok (r_var rfl) r_nil)) s3) rfl (callM_ok (consA_ok (callM_ok (consA_ok (x0 _ rfl) (consA_ok (r_var rfl) r_nil)) d6) (consA_ok (r_var rfl) r_nil)) s4)) ?_
    rfl
end Mi.k10
set_option maxHeartbeats 2000000
namespace Mi.k10
open PySem L2
def cRef (r : Res MV) : Option (Option Nat × MH) := match r with
  | some (.ok (.ref p) h) => some (some p, h)
  | _ => none
theorem cRef_e {r : Res MV} {z : Option Nat × MH} (e : cRef r = some z) : ∃ p, z.1 = some p ∧ r = ok (.ref p) z.2 := by
  unfold cRef at e
  split at e
  · cases e
    exact ⟨_, rfl, rfl⟩
  · cases e
theorem law_ok (xs : List Int) : ∃ h, f_law [.frz (xs.map MV.int)] [] = ok (.bl true) h := by
  obtain ⟨st, e0⟩ := pool_ok xs
  obtain ⟨p, h1, c1, fr1, pl, w1⟩ := tt_law_pool (h := []) e0
  obtain ⟨L, st2, e2, lL, hL, c, kL⟩ := sizes_ok st
  have c2 := tt_law_sizes (h := h1) w1 e2
  obtain ⟨h2, q2⟩ : ∃ x : MH, x = h1.set p (cPO st2) := ⟨_, rfl⟩
  have w2 : h2[p]? = some (cPO st2) := by rw [q2]; exact g_eq w1
  rw [← q2] at c2
  -- the spaces
  obtain ⟨z3, e3, l3, ⟨st3, w3⟩, i3⟩ := lcW_inv (f := fun (g : MH) (n : Nat) => cRef (f_law_drawn [.ref p, nV n] g)) (xs := L) (a0 := h2) (fun i acc g => acc.length = i ∧ (∃ st, g[p]? = some (cPO st)) ∧ ∀ k r : Nat, acc[k]? = some r → r ≠ p ∧ ∃ (sp : SP) (n : Nat), g[r]? = some (cSP sp) ∧ L[k]? = some n ∧ Good n sp) ⟨rfl, ⟨_, w2⟩, fun k r e => by rw [List.getElem?_nil] at e; cases e⟩ fun i n acc g hn ⟨l, ⟨st, w⟩, ih⟩ => by
    have hn7 := hL n (List.mem_of_getElem? hn)
    obtain ⟨sp, st', e, gd⟩ := drawn_ok st (n := n) (by omega)
    obtain ⟨p9, h9, c9, fr9, g9, w9, v9⟩ := tt_law_drawn (h := g) w e
    have gl := g_lt w
    refine ⟨_, show cRef (f_law_drawn [.ref p, nV n] g) = some (some p9, h9) by rw [c9]; rfl, by rw [List.length_append, l]; rfl, ⟨_, v9⟩, fun k r er => ?_⟩
    have er : (acc ++ [p9])[k]? = some r := er
    rcases Nat.lt_or_ge k acc.length with c | c
    · rw [List.getElem?_append_left c] at er
      obtain ⟨np, sp2, n2, a, b, d⟩ := ih k r er
      exact ⟨np, sp2, n2, fr9.get a fun hm => np (List.mem_singleton.mp hm), b, d⟩
    · rw [List.getElem?_append_right c] at er
      have hk : k - acc.length = 0 := by
        have := (List.getElem?_eq_some_iff.mp er).1
        have : k - acc.length < 1 := this
        omega
      rw [hk] at er
      cases er
      exact ⟨by omega, sp, n, w9, by rw [show k = i by omega]; exact hn, gd⟩
  obtain ⟨R, h3⟩ := z3
  have l3 : R.length = L.length := l3
  have w3 : h3[p]? = some (cPO st3) := w3
  have v3 : (lcM (seqI (callM f_law_sizes [] (consA (varM 1) nilA))) [3] (one 3) yesT (callM f_law_drawn [] (consA (varM 1) (consA (varM 3) nilA)))) [some (.frz (xs.map MV.int)), some (.ref p), none, none, none, none, none, none, none, none, none] h1 = ok (R.map MV.ref) h3 := by
    obtain ⟨g, ev, rel⟩ := z_lcW (mi := seqI (callM f_law_sizes [] (consA (varM 1) nilA))) (vs := [3]) (tg := one 3) (cd := yesT) (el := callM f_law_drawn [] (consA (varM 1) (consA (varM 3) nilA))) (s := [some (.frz (xs.map MV.int)), some (.ref p), none, none, none, none, none, none, none, none, none]) (h := h1) (h1 := h2) (f := nV) (g := MV.ref) (xs := L) (S1 := fun n => [some (.frz (xs.map MV.int)), some (.ref p), none, some (nV n), none, none, none, none, none, none, none]) (c := fun (g : MH) (n : Nat) => cRef (f_law_drawn [.ref p, nV n] g)) (fun (a : MH) (g : MH) => g = a) (q_fls (callM_ok (consA_ok (r_var rfl) r_nil) c2)) (by omega) (fun _ => rfl) (fun a n g z ra e => by
      subst ra
      obtain ⟨p9, z1, z2⟩ := cRef_e e
      refine ⟨_, z.2, ⟨true, rfl, ?_⟩, rfl⟩
      rw [z1]
      exact ⟨rfl, callM_ok (consA_ok (r_var rfl) (consA_ok (r_var rfl) r_nil)) z2⟩) rfl e3
    rw [show g = h3 from rel] at ev
    exact ev
  -- what stands in them
  have hsp : ∀ k : Nat, ∃ sp : SP, ∀ r : Nat, R[k]? = some r → h3[r]? = some (cSP sp) ∧ ∃ n, L[k]? = some n ∧ Good n sp := fun k => by
    cases er : R[k]? with
    | none => exact ⟨((0, []), [], []), fun r e => by cases e⟩
    | some r =>
      obtain ⟨_, sp, n, a, b, d⟩ := i3 k r er
      exact ⟨sp, fun r2 e => by cases e; exact ⟨a, n, b, d⟩⟩
  obtain ⟨sp, hsp⟩ : ∃ sp : Nat → SP, ∀ k r : Nat, R[k]? = some r → h3[r]? = some (cSP (sp k)) ∧ ∃ n, L[k]? = some n ∧ Good n (sp k) := ⟨fun k => (hsp k).choose, fun k => (hsp k).choose_spec⟩
  obtain ⟨n, hn⟩ : ∃ n : Nat → Nat, ∀ k, n k = L[k]?.getD 0 := ⟨fun k => L[k]?.getD 0, fun k => rfl⟩
  have Rk : ∀ k : Nat, k < 4 → ∃ r, R[k]? = some r ∧ r ≠ p ∧ h3[r]? = some (cSP (sp k)) ∧ Good (n k) (sp k) ∧ n k ≤ 7 := fun k hk => by
    have hl : k < R.length := by omega
    have er := List.getElem?_eq_getElem hl
    obtain ⟨a, n2, b, d⟩ := hsp k _ er
    have : n k = n2 := by rw [hn, b]; rfl
    rw [this]
    exact ⟨_, er, (i3 k _ er).1, a, d, hL _ (List.mem_of_getElem? b)⟩
  have pos : ∀ k : Nat, k < 3 → 0 < n k → 0 < n (k + 1) := fun k hk h => by
    have a1 : k < L.length := by omega
    have a2 : k + 1 < L.length := by omega
    have b1 := kL k _ (List.getElem?_eq_getElem a1)
    have b2 := kL (k + 1) _ (List.getElem?_eq_getElem a2)
    rw [hn, List.getElem?_eq_getElem a1] at h
    rw [hn, List.getElem?_eq_getElem a2]
    have h : 0 < L[k] := h
    show 0 < L[k + 1]
    by_cases c1 : k < c
    · rw [if_pos c1] at b1
      omega
    · rw [if_neg (show ¬ k + 1 < c by omega)] at b2
      exact b2
  -- later heaps: only the pool changes
  obtain ⟨K, hK⟩ : ∃ K : PO → MH, ∀ st, K st = h3.set p (cPO st) := ⟨fun st => h3.set p (cPO st), fun st => rfl⟩
  have K0 : h3 = K st3 := by
    rw [hK]
    apply List.ext_getElem?
    intro i
    by_cases c : p = i
    · subst c
      rw [g_eq w3, w3]
    · rw [List.getElem?_set_ne c]
  have Kp : ∀ st, (K st)[p]? = some (cPO st) := fun st => by rw [hK]; exact g_eq w3
  have Ks : ∀ st st', (K st).set p (cPO st') = K st' := fun st st' => by rw [hK, hK, List.set_set]
  have Kr : ∀ (st : PO) (k : Nat), k < 4 → ∃ r, R[k]? = some r ∧ p ≠ r ∧ (K st)[r]? = some (cSP (sp k)) ∧ Good (n k) (sp k) ∧ n k ≤ 7 := fun st k hk => by
    obtain ⟨r, a, b, d, g, l⟩ := Rk k hk
    exact ⟨r, a, fun z => b z.symm, by rw [hK]; exact g_ne d fun z => b z.symm, g, l⟩
  have Sp : ∀ st, Spaces (K st) R sp n := fun st k hk => by
    obtain ⟨r, a, _, d, g, l⟩ := Kr st k hk
    exact ⟨r, a, d, g, by omega⟩
  -- the maps
  obtain ⟨z4, e4, l4, r4⟩ := lcW_inv (f := fun (q : PO) (k : Nat) => gd (k < 3) ((t_law_map q (sp k) (sp (k + 1))).bind fun r => some (some r.1, r.2))) (xs := List.range 3) (a0 := st3) (fun i acc _ => acc.length = i ∧ ∀ (k : Nat) (row : List Nat), acc[k]? = some row → Row (n k) (n (k + 1)) row) ⟨rfl, fun k r e => by rw [List.getElem?_nil] at e; cases e⟩ fun i k acc q hk ⟨l, ih⟩ => by
    have hi : i < 3 := by
      have := (List.getElem?_eq_some_iff.mp hk).1
      rwa [List.length_range] at this
    have hk : k = i := by
      obtain ⟨_, e⟩ := List.getElem?_eq_some_iff.mp hk
      rw [List.getElem_range] at e
      exact e.symm
    subst hk
    obtain ⟨_, _, _, _, g1, m1⟩ := Kr q k (by omega)
    obtain ⟨_, _, _, _, g2, m2⟩ := Kr q (k + 1) (by omega)
    obtain ⟨row, st', e, hr⟩ := map_ok q (n := n k) (m := n (k + 1)) (by omega) (by omega) (pos k hi) g1 g2
    rw [gd_ok hi, e]
    refine ⟨_, rfl, by rw [List.length_append, l]; rfl, fun j row2 er => ?_⟩
    have er : (acc ++ [row])[j]? = some row2 := er
    rcases Nat.lt_or_ge j acc.length with c | c
    · rw [List.getElem?_append_left c] at er
      exact ih j row2 er
    · rw [List.getElem?_append_right c] at er
      have hj : j - acc.length = 0 := by
        have := (List.getElem?_eq_some_iff.mp er).1
        have : j - acc.length < 1 := this
        omega
      rw [hj] at er
      cases er
      rw [show j = k by omega]
      exact hr
  obtain ⟨rows, st4⟩ := z4
  rw [List.length_range] at l4
  have l4 : rows.length = 3 := l4
  have v4 : (lcM (rng1 (consA (cM (.int 3)) nilA)) [5] (one 5) yesT (callM f_law_map [] (consA (varM 1) (consA (opM ixF (varM 2) (varM 5)) (consA (opM ixF (varM 2) (opM addF (varM 5) (cM (.int 1)))) nilA))))) [some (.frz (xs.map MV.int)), some (.ref p), some (.fls (R.map MV.ref)), none, none, none, none, none, none, none, none] h3 = ok (rows.map e_VN) (K st4) := by
    obtain ⟨g, ev, rel⟩ := z_lcW (mi := rng1 (consA (cM (.int 3)) nilA)) (vs := [5]) (tg := one 5) (cd := yesT) (el := callM f_law_map [] (consA (varM 1) (consA (opM ixF (varM 2) (varM 5)) (consA (opM ixF (varM 2) (opM addF (varM 5) (cM (.int 1)))) nilA)))) (s := [some (.frz (xs.map MV.int)), some (.ref p), some (.fls (R.map MV.ref)), none, none, none, none, none, none, none, none]) (h := h3) (h1 := h3) (f := nV) (g := e_VN) (xs := List.range 3) (S1 := fun k => [some (.frz (xs.map MV.int)), some (.ref p), some (.fls (R.map MV.ref)), none, none, some (nV k), none, none, none, none, none]) (c := fun (q : PO) (k : Nat) => gd (k < 3) ((t_law_map q (sp k) (sp (k + 1))).bind fun r => some (some r.1, r.2))) (fun (a : PO) (g : MH) => g = K a) (q_rng (n := 3) rfl (by omega)) (by rw [List.length_range]; omega) (fun _ => rfl) (fun a k g z ra e => by
      subst ra
      obtain ⟨hk, e⟩ := gd_e e
      obtain ⟨r, e5, e⟩ := obind e
      obtain rfl := some_e e
      obtain ⟨r1, er1, n1, w1, _, _⟩ := Kr a k (by omega)
      obtain ⟨r2, er2, n2, w2, _, _⟩ := Kr a (k + 1) (by omega)
      have cm := tt_law_map (h := K a) (Kp a) w1 w2 n1 n2 e5
      rw [show (K a).set p (c_RX7cel_at_res_lef_odd_see_turFINNNBNN r.2) = K r.2 from Ks a r.2] at cm
      exact ⟨_, K r.2, ⟨true, rfl, rfl, callM_ok (consA_ok (r_var rfl) (consA_ok (y_ix (f := MV.ref) (i := k) (x := r1) (xs := R) (r_var rfl) (r_var rfl) rfl er1) (consA_ok (y_ix (f := MV.ref) (i := k + 1) (x := r2) (xs := R) (r_var rfl) (r_add (i := k) (j := 1) (r_var rfl) rfl) rfl er2) r_nil))) cm⟩, rfl⟩) K0 e4
    rw [show g = K st4 from rel] at ev
    exact ev
  have rk : ∀ k : Nat, k < 3 → ∃ row, rows[k]? = some row ∧ Row (n k) (n (k + 1)) row := fun k hk => by
    have hl : k < rows.length := by omega
    exact ⟨_, List.getElem?_eq_getElem hl, r4 k _ (List.getElem?_eq_getElem hl)⟩
  have c5 := composes_ok (Sp st4) rk
  obtain ⟨r3, er3, np3, w33, g3, m3⟩ := Kr st4 3 (by omega)
  obtain ⟨st5, e5⟩ := turns_ok st4 (n := n 3) (by omega) g3
  have c6 := tt_law_turns_right (h := K st4) (Kp st4) w33 np3 e5
  rw [show (K st4).set p (c_RX7cel_at_res_lef_odd_see_turFINNNBNN (true, st5).2) = K st5 from Ks st4 st5] at c6
  obtain ⟨k, st6, e6, hk⟩ := take_ok st5 (m := 3) (by omega) (by omega)
  have c7 := tt_law_take (h := K st5) (Kp st5) e6
  rw [show (K st5).set p (c_RX7cel_at_res_lef_odd_see_turFINNNBNN (k, st6).2) = K st6 from Ks st5 st6] at c7
  obtain ⟨row, ew, hrow⟩ := rk k hk
  obtain ⟨a1, ea1, na1, wa1, ga1, ma1⟩ := Kr st6 k (by omega)
  obtain ⟨a2, ea2, na2, wa2, ga2, ma2⟩ := Kr st6 (k + 1) (by omega)
  have all : ∀ st, (K st)[a1]? = some (cSP (sp k)) ∧ (K st)[a2]? = some (cSP (sp (k + 1))) := fun st => by
    obtain ⟨x1, y1, _, u1, _⟩ := Kr st k (by omega)
    obtain ⟨x2, y2, _, u2, _⟩ := Kr st (k + 1) (by omega)
    rw [ea1] at y1
    rw [ea2] at y2
    cases y1
    cases y2
    exact ⟨u1, u2⟩
  have h0 := pos k hk
  obtain ⟨hi, st7, e7, hhi⟩ := moved_ok st6 (n := n k) (m := n (k + 1)) (by omega) (by omega) h0 ga1 ga2 hrow true
  have c8 := tt_law_moved (h := K st6) (Kp st6) (all st6).1 (all st6).2 na1 na2 e7
  rw [show (K st6).set p (c_RX7cel_at_res_lef_odd_see_turFINNNBNN (hi, st7).2) = K st7 from Ks st6 st7] at c8
  obtain ⟨lo, st8, e8, hlo⟩ := moved_ok st7 (n := n k) (m := n (k + 1)) (by omega) (by omega) h0 ga1 ga2 hrow false
  have c9 := tt_law_moved (h := K st7) (Kp st7) (all st7).1 (all st7).2 na1 na2 e8
  rw [show (K st7).set p (c_RX7cel_at_res_lef_odd_see_turFINNNBNN (lo, st8).2) = K st8 from Ks st7 st8] at c9
  obtain ⟨as, st9, e9, has⟩ := moved_ok st8 (n := n k) (m := n (k + 1)) (by omega) (by omega) h0 ga1 ga2 hhi false
  have c10 := tt_law_moved (h := K st8) (Kp st8) (all st8).1 (all st8).2 na1 na2 e9
  rw [show (K st8).set p (c_RX7cel_at_res_lef_odd_see_turFINNNBNN (as, st9).2) = K st9 from Ks st8 st9] at c10
  obtain ⟨new, st10, e10, hnew⟩ := map_ok st9 (n := n k) (m := n (k + 1)) (by omega) (by omega) h0 ga1 ga2
  have c11 := tt_law_map (h := K st9) (Kp st9) (all st9).1 (all st9).2 na1 na2 e10
  rw [show (K st9).set p (c_RX7cel_at_res_lef_odd_see_turFINNNBNN (new, st10).2) = K st10 from Ks st9 st10] at c11
  have e11 := pairs_ok (n := n k) (m := n (k + 1)) (by omega) (by omega) ga2 (maps := [row, hi, lo, as, new]) (fcons hrow (fcons hhi (fcons hlo (fcons has (fcons hnew fnil)))))
  have c12 := tt_law_pairs_right (h := K st10) (all st10).2 e11
  refine ⟨K st10, x_law.trans (fn_go ?_)⟩
  unfold m_law
  refine W_seq (setS_ok (callM_ok (consA_ok (r_var rfl) r_nil) c1)) ?_
  refine W_seq (setS_ok (r_fls v3)) ?_
  refine W_seq (setS_ok (r_fls v4)) ?_
  refine W_sf (y_orTf (r_not (r_tru (callM_ok (consA_ok (r_var rfl) (consA_ok (r_var rfl) r_nil)) c5))) rfl (r_not (r_tru (callM_ok (consA_ok (r_var rfl) (consA_ok (y_ix (f := MV.ref) (i := 3) (x := r3) (xs := R) (r_var rfl) rfl rfl er3) r_nil)) c6)))) rfl ?_
  refine W_nils ?_
  refine W_seq (setS_ok (callM_ok (consA_ok (r_var rfl) (consA_ok rfl r_nil)) c7)) ?_
  refine W_seq (setS_ok (y_ix (f := MV.ref) (i := k) (x := a1) (xs := R) (r_var rfl) (r_var rfl) rfl ea1)) ?_
  refine W_seq (setS_ok (y_ix (f := MV.ref) (i := k + 1) (x := a2) (xs := R) (r_var rfl) (r_add (i := k) (j := 1) (r_var rfl) rfl) rfl ea2)) ?_
  refine W_seq (setS_ok (callM_ok (consA_ok (r_var rfl) (consA_ok (r_var rfl) (consA_ok (r_var rfl) (consA_ok (y_ix (f := e_VN) (i := k) (x := row) (xs := rows) (r_var rfl) (r_var rfl) rfl ew) (consA_ok rfl r_nil))))) c8)) ?_
  refine W_seq (setS_ok (callM_ok (consA_ok (r_var rfl) (consA_ok (r_var rfl) (consA_ok (r_var rfl) (consA_ok (y_ix (f := e_VN) (i := k) (x := row) (xs := rows) (r_var rfl) (r_var rfl) rfl ew) (consA_ok rfl r_nil))))) c9)) ?_
  refine W_seq (setS_ok (callM_ok (consA_ok (r_var rfl) (consA_ok (r_var rfl) (consA_ok (r_var rfl) (consA_ok (r_var rfl) (consA_ok rfl r_nil))))) c10)) ?_
  refine W_ret (callM_ok (consA_ok (r_var rfl) (consA_ok (r_fls (r_lst (consA_ok (y_ix (f := e_VN) (i := k) (x := row) (xs := rows) (r_var rfl) (r_var rfl) rfl ew) (consA_ok (r_var rfl) (consA_ok (r_var rfl) (consA_ok (r_var rfl) (consA_ok (callM_ok (consA_ok (r_var rfl) (consA_ok (r_var rfl) (consA_ok (r_var rfl) r_nil))) c11) r_nil))))) (by show 5 ≤ 400000; omega))) r_nil)) c12) ?_
  rfl
theorem main : ∀ ns : List Int, ns.length ≤ 63 → ∃ h, f_law [.frz (ns.map MV.int)] [] = ok (.bl true) h := fun ns _ => law_ok ns
end Mi.k10
set_option simprocs true
set_option maxHeartbeats 8000000
namespace Mi.k10
open PySem L2
def topS (i : Nat) : Stmt := PySem.Challenge.pw_strikecore_k10_maps_composed_and_compare.main.body.getD i (.Pass ⟨0, 0, 0, 0⟩)
abbrev s_law_pool : Stmt := topS 9
theorem sc_law_pool : FnScope ["script", "seed", "cell"] ["script"] (defScope s_law_pool) := ⟨rfl, rfl, rfl, by decide +kernel, rfl, by decide +kernel, by decide +kernel⟩
abbrev s_law_mixed : Stmt := topS 8
theorem sc_law_mixed : FnScope ["number", "turn", "many", "prime", "once", "twice"] ["number", "turn", "many"] (defScope s_law_mixed) := ⟨rfl, rfl, rfl, by decide +kernel, rfl, by decide +kernel, by decide +kernel⟩
abbrev s_law_take : Stmt := topS 10
theorem sc_law_take : FnScope ["pool", "many", "cell", "drawn"] ["pool", "many"] (defScope s_law_take) := ⟨rfl, rfl, rfl, by decide +kernel, rfl, by decide +kernel, by decide +kernel⟩
abbrev s_law_names : Stmt := topS 11
theorem sc_law_names : FnScope ["pool", "n", "left", "k"] ["pool", "n"] (defScope s_law_names) := ⟨rfl, rfl, rfl, by decide +kernel, rfl, by decide +kernel, by decide +kernel⟩
abbrev s_law_space : Stmt := topS 14
theorem sc_law_space : FnScope ["names", "up", "n", "under", "k", "i", "row", "j", "pairs", "x", "y"] ["names", "up"] (defScope s_law_space) := ⟨rfl, rfl, rfl, by decide +kernel, rfl, by decide +kernel, by decide +kernel⟩
abbrev s_law_floors : Stmt := topS 12
theorem sc_law_floors : FnScope ["pool", "n", "wide", "up", "j", "i"] ["pool", "n", "wide"] (defScope s_law_floors) := ⟨rfl, rfl, rfl, by decide +kernel, rfl, by decide +kernel, by decide +kernel⟩
abbrev s_law_drawn : Stmt := topS 13
theorem sc_law_drawn : FnScope ["pool", "n", "way", "up", "k", "i", "row", "j"] ["pool", "n"] (defScope s_law_drawn) := ⟨rfl, rfl, rfl, by decide +kernel, rfl, by decide +kernel, by decide +kernel⟩
abbrev s_law_leq : Stmt := topS 15
theorem sc_law_leq : FnScope ["space", "a", "b"] ["space", "a", "b"] (defScope s_law_leq) := ⟨rfl, rfl, rfl, by decide +kernel, rfl, by decide +kernel, by decide +kernel⟩
abbrev s_law_bounds : Stmt := topS 18
theorem sc_law_bounds : FnScope ["space", "values", "q", "one"] ["space", "values", "q"] (defScope s_law_bounds) := ⟨rfl, rfl, rfl, by decide +kernel, rfl, by decide +kernel, by decide +kernel⟩
abbrev s_law_map : Stmt := topS 17
theorem sc_law_map : FnScope ["pool", "first", "second", "names", "row", "x", "i", "values", "y", "fit", "q", "value"] ["pool", "first", "second"] (defScope s_law_map) := ⟨rfl, rfl, rfl, by decide +kernel, rfl, by decide +kernel, by decide +kernel⟩
abbrev s_law_rises : Stmt := topS 16
theorem sc_law_rises : FnScope ["first", "second", "row", "x", "y"] ["first", "second", "row"] (defScope s_law_rises) := ⟨rfl, rfl, rfl, by decide +kernel, rfl, by decide +kernel, by decide +kernel⟩
abbrev s_law_moved : Stmt := topS 20
theorem sc_law_moved : FnScope ["pool", "first", "second", "row", "up", "n", "turn", "x", "value", "other", "ends"] ["pool", "first", "second", "row", "up"] (defScope s_law_moved) := ⟨rfl, rfl, rfl, by decide +kernel, rfl, by decide +kernel, by decide +kernel⟩
abbrev s_law_sizes : Stmt := topS 24
theorem sc_law_sizes : FnScope ["pool", "sizes", "k"] ["pool"] (defScope s_law_sizes) := ⟨rfl, rfl, rfl, by decide +kernel, rfl, by decide +kernel, by decide +kernel⟩
abbrev s_identity_map : Stmt := topS 3
theorem sc_identity_map : FnScope ["order"] ["order"] (defScope s_identity_map) := ⟨rfl, rfl, rfl, by decide +kernel, rfl, by decide +kernel, by decide +kernel⟩
abbrev s_compose : Stmt := topS 4
theorem sc_compose : FnScope ["row", "after", "value"] ["row", "after"] (defScope s_compose) := ⟨rfl, rfl, rfl, by decide +kernel, rfl, by decide +kernel, by decide +kernel⟩
abbrev s_law_same : Stmt := topS 19
theorem sc_law_same : FnScope ["actual", "due", "k"] ["actual", "due"] (defScope s_law_same) := ⟨rfl, rfl, rfl, by decide +kernel, rfl, by decide +kernel, by decide +kernel⟩
abbrev s_law_composed : Stmt := topS 23
theorem sc_law_composed : FnScope ["row", "after", "found", "x"] ["row", "after"] (defScope s_law_composed) := ⟨rfl, rfl, rfl, by decide +kernel, rfl, by decide +kernel, by decide +kernel⟩
abbrev s_law_composes_right : Stmt := topS 25
theorem sc_law_composes_right : FnScope ["spaces", "rows", "k", "row", "ends", "j", "both", "later", "due", "x"] ["spaces", "rows"] (defScope s_law_composes_right) := ⟨rfl, rfl, rfl, by decide +kernel, rfl, by decide +kernel, by decide +kernel⟩
abbrev s_law_turns_right : Stmt := topS 26
theorem sc_law_turns_right : FnScope ["pool", "space", "one", "two"] ["pool", "space"] (defScope s_law_turns_right) := ⟨rfl, rfl, rfl, by decide +kernel, rfl, by decide +kernel, by decide +kernel⟩
abbrev s_is_below : Stmt := topS 1
theorem sc_is_below : FnScope ["order", "x", "y", "pairs", "start", "end", "middle"] ["order", "x", "y"] (defScope s_is_below) := ⟨rfl, rfl, rfl, by decide +kernel, rfl, by decide +kernel, by decide +kernel⟩
abbrev s_at_most : Stmt := topS 5
theorem sc_at_most : FnScope ["second", "low", "high", "x", "value"] ["second", "low", "high"] (defScope s_at_most) := ⟨rfl, rfl, rfl, by decide +kernel, rfl, by decide +kernel, by decide +kernel⟩
abbrev s_are_neighbours : Stmt := topS 6
theorem sc_are_neighbours : FnScope ["second", "row", "other"] ["second", "row", "other"] (defScope s_are_neighbours) := ⟨rfl, rfl, rfl, by decide +kernel, rfl, by decide +kernel, by decide +kernel⟩
abbrev s_law_is_most : Stmt := topS 21
theorem sc_law_is_most : FnScope ["second", "low", "high", "x"] ["second", "low", "high"] (defScope s_law_is_most) := ⟨rfl, rfl, rfl, by decide +kernel, rfl, by decide +kernel, by decide +kernel⟩
abbrev s_law_whether : Stmt := topS 22
theorem sc_law_whether : FnScope ["told", "due"] ["told", "due"] (defScope s_law_whether) := ⟨rfl, rfl, rfl, by decide +kernel, rfl, by decide +kernel, by decide +kernel⟩
abbrev s_law_pairs_right : Stmt := topS 27
theorem sc_law_pairs_right : FnScope ["second", "maps", "low", "high", "most", "near"] ["second", "maps"] (defScope s_law_pairs_right) := ⟨rfl, rfl, rfl, by decide +kernel, rfl, by decide +kernel, by decide +kernel⟩
abbrev s_law : Stmt := topS 28
theorem sc_law : FnScope ["script", "pool", "spaces", "size", "rows", "k", "first", "second", "higher", "lower", "aside"] ["script"] (defScope s_law) := ⟨rfl, rfl, rfl, by decide +kernel, rfl, by decide +kernel, by decide +kernel⟩
structure Txt (K : PySem.W.Frag) (mg : Str → Option Value) where
  a_law_pool : Addr
  d_law_pool : FuncData
  F_law_pool : Fun K "_law_pool" "_law_pool" s_law_pool a_law_pool d_law_pool
  g_law_pool : mg "_law_pool" = some (.ref a_law_pool)
  a_law_mixed : Addr
  d_law_mixed : FuncData
  F_law_mixed : Fun K "_law_mixed" "_law_mixed" s_law_mixed a_law_mixed d_law_mixed
  g_law_mixed : mg "_law_mixed" = some (.ref a_law_mixed)
  a_law_take : Addr
  d_law_take : FuncData
  F_law_take : Fun K "_law_take" "_law_take" s_law_take a_law_take d_law_take
  g_law_take : mg "_law_take" = some (.ref a_law_take)
  a_law_names : Addr
  d_law_names : FuncData
  F_law_names : Fun K "_law_names" "_law_names" s_law_names a_law_names d_law_names
  g_law_names : mg "_law_names" = some (.ref a_law_names)
  a_law_space : Addr
  d_law_space : FuncData
  F_law_space : Fun K "_law_space" "_law_space" s_law_space a_law_space d_law_space
  g_law_space : mg "_law_space" = some (.ref a_law_space)
  a_law_floors : Addr
  d_law_floors : FuncData
  F_law_floors : Fun K "_law_floors" "_law_floors" s_law_floors a_law_floors d_law_floors
  g_law_floors : mg "_law_floors" = some (.ref a_law_floors)
  a_law_drawn : Addr
  d_law_drawn : FuncData
  F_law_drawn : Fun K "_law_drawn" "_law_drawn" s_law_drawn a_law_drawn d_law_drawn
  g_law_drawn : mg "_law_drawn" = some (.ref a_law_drawn)
  a_law_leq : Addr
  d_law_leq : FuncData
  F_law_leq : Fun K "_law_leq" "_law_leq" s_law_leq a_law_leq d_law_leq
  g_law_leq : mg "_law_leq" = some (.ref a_law_leq)
  a_law_bounds : Addr
  d_law_bounds : FuncData
  F_law_bounds : Fun K "_law_bounds" "_law_bounds" s_law_bounds a_law_bounds d_law_bounds
  g_law_bounds : mg "_law_bounds" = some (.ref a_law_bounds)
  a_law_map : Addr
  d_law_map : FuncData
  F_law_map : Fun K "_law_map" "_law_map" s_law_map a_law_map d_law_map
  g_law_map : mg "_law_map" = some (.ref a_law_map)
  a_law_rises : Addr
  d_law_rises : FuncData
  F_law_rises : Fun K "_law_rises" "_law_rises" s_law_rises a_law_rises d_law_rises
  g_law_rises : mg "_law_rises" = some (.ref a_law_rises)
  a_law_moved : Addr
  d_law_moved : FuncData
  F_law_moved : Fun K "_law_moved" "_law_moved" s_law_moved a_law_moved d_law_moved
  g_law_moved : mg "_law_moved" = some (.ref a_law_moved)
  a_law_sizes : Addr
  d_law_sizes : FuncData
  F_law_sizes : Fun K "_law_sizes" "_law_sizes" s_law_sizes a_law_sizes d_law_sizes
  g_law_sizes : mg "_law_sizes" = some (.ref a_law_sizes)
  a_identity_map : Addr
  d_identity_map : FuncData
  F_identity_map : Fun K "identity_map" "identity_map" s_identity_map a_identity_map d_identity_map
  g_identity_map : mg "identity_map" = some (.ref a_identity_map)
  a_compose : Addr
  d_compose : FuncData
  F_compose : Fun K "compose" "compose" s_compose a_compose d_compose
  g_compose : mg "compose" = some (.ref a_compose)
  a_law_same : Addr
  d_law_same : FuncData
  F_law_same : Fun K "_law_same" "_law_same" s_law_same a_law_same d_law_same
  g_law_same : mg "_law_same" = some (.ref a_law_same)
  a_law_composed : Addr
  d_law_composed : FuncData
  F_law_composed : Fun K "_law_composed" "_law_composed" s_law_composed a_law_composed d_law_composed
  g_law_composed : mg "_law_composed" = some (.ref a_law_composed)
  a_law_composes_right : Addr
  d_law_composes_right : FuncData
  F_law_composes_right : Fun K "_law_composes_right" "_law_composes_right" s_law_composes_right a_law_composes_right d_law_composes_right
  g_law_composes_right : mg "_law_composes_right" = some (.ref a_law_composes_right)
  a_law_turns_right : Addr
  d_law_turns_right : FuncData
  F_law_turns_right : Fun K "_law_turns_right" "_law_turns_right" s_law_turns_right a_law_turns_right d_law_turns_right
  g_law_turns_right : mg "_law_turns_right" = some (.ref a_law_turns_right)
  a_is_below : Addr
  d_is_below : FuncData
  F_is_below : Fun K "is_below" "is_below" s_is_below a_is_below d_is_below
  g_is_below : mg "is_below" = some (.ref a_is_below)
  a_at_most : Addr
  d_at_most : FuncData
  F_at_most : Fun K "at_most" "at_most" s_at_most a_at_most d_at_most
  g_at_most : mg "at_most" = some (.ref a_at_most)
  a_are_neighbours : Addr
  d_are_neighbours : FuncData
  F_are_neighbours : Fun K "are_neighbours" "are_neighbours" s_are_neighbours a_are_neighbours d_are_neighbours
  g_are_neighbours : mg "are_neighbours" = some (.ref a_are_neighbours)
  a_law_is_most : Addr
  d_law_is_most : FuncData
  F_law_is_most : Fun K "_law_is_most" "_law_is_most" s_law_is_most a_law_is_most d_law_is_most
  g_law_is_most : mg "_law_is_most" = some (.ref a_law_is_most)
  a_law_whether : Addr
  d_law_whether : FuncData
  F_law_whether : Fun K "_law_whether" "_law_whether" s_law_whether a_law_whether d_law_whether
  g_law_whether : mg "_law_whether" = some (.ref a_law_whether)
  a_law_pairs_right : Addr
  d_law_pairs_right : FuncData
  F_law_pairs_right : Fun K "_law_pairs_right" "_law_pairs_right" s_law_pairs_right a_law_pairs_right d_law_pairs_right
  g_law_pairs_right : mg "_law_pairs_right" = some (.ref a_law_pairs_right)
  a_law : Addr
  d_law : FuncData
  F_law : Fun K "law" "law" s_law a_law d_law
  g_law : mg "law" = some (.ref a_law)
  b_abs : mg "abs" = none
  b_bool : mg "bool" = none
  b_enumerate : mg "enumerate" = none
  b_int : mg "int" = none
  b_isinstance : mg "isinstance" = none
  b_len : mg "len" = none
  b_list : mg "list" = none
  b_range : mg "range" = none
  b_str : mg "str" = none
  b_tuple : mg "tuple" = none
section
variable {P : Program} {w : World} {K : PySem.W.Frag} {mg : Str → Option Value} {base : Heap}
theorem bi_law_pool (T : Txt K mg) : Binds K T.d_law_pool ["script"] [] := T.F_law_pool.binds fun _ _ _ _ _ _ us hl => match us, hl with | [_], _ => rfl
theorem bi_law_mixed (T : Txt K mg) : Binds K T.d_law_mixed ["number", "turn", "many"] [] := T.F_law_mixed.binds fun _ _ _ _ _ _ us hl => match us, hl with | [_, _, _], _ => rfl
theorem bi_law_take (T : Txt K mg) : Binds K T.d_law_take ["pool", "many"] [] := T.F_law_take.binds fun _ _ _ _ _ _ us hl => match us, hl with | [_, _], _ => rfl
theorem bi_law_names (T : Txt K mg) : Binds K T.d_law_names ["pool", "n"] [] := T.F_law_names.binds fun _ _ _ _ _ _ us hl => match us, hl with | [_, _], _ => rfl
theorem bi_law_space (T : Txt K mg) : Binds K T.d_law_space ["names", "up"] [] := T.F_law_space.binds fun _ _ _ _ _ _ us hl => match us, hl with | [_, _], _ => rfl
theorem bi_law_floors (T : Txt K mg) : Binds K T.d_law_floors ["pool", "n", "wide"] [] := T.F_law_floors.binds fun _ _ _ _ _ _ us hl => match us, hl with | [_, _, _], _ => rfl
theorem bi_law_drawn (T : Txt K mg) : Binds K T.d_law_drawn ["pool", "n"] [] := T.F_law_drawn.binds fun _ _ _ _ _ _ us hl => match us, hl with | [_, _], _ => rfl
theorem bi_law_leq (T : Txt K mg) : Binds K T.d_law_leq ["space", "a", "b"] [] := T.F_law_leq.binds fun _ _ _ _ _ _ us hl => match us, hl with | [_, _, _], _ => rfl
theorem bi_law_bounds (T : Txt K mg) : Binds K T.d_law_bounds ["space", "values", "q"] [] := T.F_law_bounds.binds fun _ _ _ _ _ _ us hl => match us, hl with | [_, _, _], _ => rfl
theorem bi_law_map (T : Txt K mg) : Binds K T.d_law_map ["pool", "first", "second"] [] := T.F_law_map.binds fun _ _ _ _ _ _ us hl => match us, hl with | [_, _, _], _ => rfl
theorem bi_law_rises (T : Txt K mg) : Binds K T.d_law_rises ["first", "second", "row"] [] := T.F_law_rises.binds fun _ _ _ _ _ _ us hl => match us, hl with | [_, _, _], _ => rfl
theorem bi_law_moved (T : Txt K mg) : Binds K T.d_law_moved ["pool", "first", "second", "row", "up"] [] := T.F_law_moved.binds fun _ _ _ _ _ _ us hl => match us, hl with | [_, _, _, _, _], _ => rfl
theorem bi_law_sizes (T : Txt K mg) : Binds K T.d_law_sizes ["pool"] [] := T.F_law_sizes.binds fun _ _ _ _ _ _ us hl => match us, hl with | [_], _ => rfl
theorem bi_identity_map (T : Txt K mg) : Binds K T.d_identity_map ["order"] [] := T.F_identity_map.binds fun _ _ _ _ _ _ us hl => match us, hl with | [_], _ => rfl
theorem kb_identity_map_0 (T : Txt K mg) : KBn K T.d_identity_map ["order"] 0 ["order"] (fun us ws => pick [0] (us ++ ws ++ [])) (fun vs zs => pick [0] (vs ++ zs ++ [])) := by
  obtain ⟨oc, od, kV, doc, pm, an, cdv, ct, osl, e, lk, hcd⟩ := T.F_identity_map.ex
  refine ⟨fun s us ws X h1 h2 => ?_, fun r1 r2 => vals_pick ((r1.append r2).append .nil) _⟩
  rw [e]
  exact BindsTo.of_eq (match us, h1, ws, h2 with | [], _, [_], _ => rfl)
theorem bi_compose (T : Txt K mg) : Binds K T.d_compose ["row", "after"] [] := T.F_compose.binds fun _ _ _ _ _ _ us hl => match us, hl with | [_, _], _ => rfl
theorem kb_compose_0 (T : Txt K mg) : KBn K T.d_compose ["row", "after"] 0 ["row", "after"] (fun us ws => pick [0, 1] (us ++ ws ++ [])) (fun vs zs => pick [0, 1] (vs ++ zs ++ [])) := by
  obtain ⟨oc, od, kV, doc, pm, an, cdv, ct, osl, e, lk, hcd⟩ := T.F_compose.ex
  refine ⟨fun s us ws X h1 h2 => ?_, fun r1 r2 => vals_pick ((r1.append r2).append .nil) _⟩
  rw [e]
  exact BindsTo.of_eq (match us, h1, ws, h2 with | [], _, [_, _], _ => rfl)
theorem kb_compose_1 (T : Txt K mg) : KBn K T.d_compose ["row", "after"] 0 ["after", "row"] (fun us ws => pick [1, 0] (us ++ ws ++ [])) (fun vs zs => pick [1, 0] (vs ++ zs ++ [])) := by
  obtain ⟨oc, od, kV, doc, pm, an, cdv, ct, osl, e, lk, hcd⟩ := T.F_compose.ex
  refine ⟨fun s us ws X h1 h2 => ?_, fun r1 r2 => vals_pick ((r1.append r2).append .nil) _⟩
  rw [e]
  exact BindsTo.of_eq (match us, h1, ws, h2 with | [], _, [_, _], _ => rfl)
theorem bi_law_same (T : Txt K mg) : Binds K T.d_law_same ["actual", "due"] [] := T.F_law_same.binds fun _ _ _ _ _ _ us hl => match us, hl with | [_, _], _ => rfl
theorem bi_law_composed (T : Txt K mg) : Binds K T.d_law_composed ["row", "after"] [] := T.F_law_composed.binds fun _ _ _ _ _ _ us hl => match us, hl with | [_, _], _ => rfl
theorem bi_law_composes_right (T : Txt K mg) : Binds K T.d_law_composes_right ["spaces", "rows"] [] := T.F_law_composes_right.binds fun _ _ _ _ _ _ us hl => match us, hl with | [_, _], _ => rfl
theorem bi_law_turns_right (T : Txt K mg) : Binds K T.d_law_turns_right ["pool", "space"] [] := T.F_law_turns_right.binds fun _ _ _ _ _ _ us hl => match us, hl with | [_, _], _ => rfl
theorem bi_is_below (T : Txt K mg) : Binds K T.d_is_below ["order", "x", "y"] [] := T.F_is_below.binds fun _ _ _ _ _ _ us hl => match us, hl with | [_, _, _], _ => rfl
theorem bi_at_most (T : Txt K mg) : Binds K T.d_at_most ["second", "low", "high"] [] := T.F_at_most.binds fun _ _ _ _ _ _ us hl => match us, hl with | [_, _, _], _ => rfl
theorem kb_at_most_0 (T : Txt K mg) : KBn K T.d_at_most ["second", "low", "high"] 0 ["high", "low", "second"] (fun us ws => pick [2, 1, 0] (us ++ ws ++ [])) (fun vs zs => pick [2, 1, 0] (vs ++ zs ++ [])) := by
  obtain ⟨oc, od, kV, doc, pm, an, cdv, ct, osl, e, lk, hcd⟩ := T.F_at_most.ex
  refine ⟨fun s us ws X h1 h2 => ?_, fun r1 r2 => vals_pick ((r1.append r2).append .nil) _⟩
  rw [e]
  exact BindsTo.of_eq (match us, h1, ws, h2 with | [], _, [_, _, _], _ => rfl)
theorem bi_are_neighbours (T : Txt K mg) : Binds K T.d_are_neighbours ["second", "row", "other"] [] := T.F_are_neighbours.binds fun _ _ _ _ _ _ us hl => match us, hl with | [_, _, _], _ => rfl
theorem kb_are_neighbours_0 (T : Txt K mg) : KBn K T.d_are_neighbours ["second", "row", "other"] 0 ["other", "row", "second"] (fun us ws => pick [2, 1, 0] (us ++ ws ++ [])) (fun vs zs => pick [2, 1, 0] (vs ++ zs ++ [])) := by
  obtain ⟨oc, od, kV, doc, pm, an, cdv, ct, osl, e, lk, hcd⟩ := T.F_are_neighbours.ex
  refine ⟨fun s us ws X h1 h2 => ?_, fun r1 r2 => vals_pick ((r1.append r2).append .nil) _⟩
  rw [e]
  exact BindsTo.of_eq (match us, h1, ws, h2 with | [], _, [_, _, _], _ => rfl)
theorem bi_law_is_most (T : Txt K mg) : Binds K T.d_law_is_most ["second", "low", "high"] [] := T.F_law_is_most.binds fun _ _ _ _ _ _ us hl => match us, hl with | [_, _, _], _ => rfl
theorem bi_law_whether (T : Txt K mg) : Binds K T.d_law_whether ["told", "due"] [] := T.F_law_whether.binds fun _ _ _ _ _ _ us hl => match us, hl with | [_, _], _ => rfl
theorem bi_law_pairs_right (T : Txt K mg) : Binds K T.d_law_pairs_right ["second", "maps"] [] := T.F_law_pairs_right.binds fun _ _ _ _ _ _ us hl => match us, hl with | [_, _], _ => rfl
theorem ok_law_pool (T : Txt K mg) : FnOk P w K mg base CX0 1 T.a_law_pool T.d_law_pool ["script"] (spM K mg 1 f_law_pool) := (fn_mir (k := 0) (m := m_law_pool) T.F_law_pool sc_law_pool fun cdv A outer s H E hr =>
    (ss_cons (s_set (i := 1) sc_law_pool.nd rfl (Or.inl rfl) em_int)
    (ss_cons (s_pre (vs := [2]) (s_for PassesOwn.never rfl (im_seq (em_var (pv 0))) (pg_name (i := 2) sc_law_pool.nd rfl (by first | exact Or.inl rfl | exact Or.inr rfl)) (tg_one 2) (ss_wip (vs := [2]) (ss_one (s_set (i := 1) sc_law_pool.nd rfl (Or.inl rfl) (em_op op_mod opm_mod (em_bty call_int1 cm_int (by rfl) T.b_int PyProof.Rows.boot_int (am_cons (em_op op_addA opm_add (em_op op_mul opm_mul (em_var (pv 1)) em_int) (em_var (pv 2))) am_nil)) em_int))))))
    (ss_one (s_ret (em_disp (ps := [("cells", (flsM (bltL lstF (consA (varM 0) nilA)))), ("at", (cM (.int 0))), ("rest", (cM (.int 0))), ("left", (cM (.int 0))), ("odd", (cM (.bl false))), ("seed", (varM 1)), ("turn", (cM (.int 0)))]) (pps_cons em_str (em_fls (lm_bty call_list_of cl_lst (by rfl) T.b_list PyProof.Rows.boot_list (am_cons (em_var (pv 0)) am_nil))) (pps_cons em_str em_int (pps_cons em_str em_int (pps_cons em_str em_int (pps_cons em_str em_bl (pps_cons em_str (em_var (pv 1)) (pps_cons em_str em_int pps_nil))))))) rfl rfl (List.cons_ne_nil _ _) (by decide))))))).imp cut_sp
theorem ok_law_mixed (T : Txt K mg) : FnOk P w K mg base CX0 1 T.a_law_mixed T.d_law_mixed ["number", "turn", "many"] (spM K mg 3 f_law_mixed) := fn_mir T.F_law_mixed sc_law_mixed fun cdv A outer s H E hr =>
    (ss_cons (s_set (i := 3) sc_law_mixed.nd rfl (Or.inl rfl) em_int)
    (ss_cons (s_set (i := 4) sc_law_mixed.nd rfl (Or.inl rfl) (em_op op_mod opm_mod (em_bty call_int1 cm_int (by rfl) T.b_int PyProof.Rows.boot_int (am_cons (em_op op_addA opm_add (em_op op_addA opm_add (em_op op_mul opm_mul (em_var (pv 0)) em_int) (em_op op_mul opm_mul (em_var (pv 1)) em_int)) em_int) am_nil)) (em_var (pv 3))))
    (ss_cons (s_set (i := 5) sc_law_mixed.nd rfl (Or.inl rfl) (em_op op_mod opm_mod (em_op op_mul opm_mul (em_bty call_int1 cm_int (by rfl) T.b_int PyProof.Rows.boot_int (am_cons (em_op op_addA opm_add (em_op op_mul opm_mul (em_var (pv 4)) (em_var (pv 4))) (em_var (pv 1))) am_nil)) em_int) (em_var (pv 3))))
    (ss_one (s_ret (em_op op_mod opm_mod (em_op op_fdiv opm_div (em_var (pv 5)) em_int) (em_var (pv 2))))))))
theorem ok_law_take (T : Txt K mg) : FnOk P w K mg base CX0 2 T.a_law_take T.d_law_take ["pool", "many"] (spM K mg 2 f_law_take) := fn_mir T.F_law_take sc_law_take fun cdv A outer s H E hr =>
    (ss_cons (s_dput hr.units (em_var (pv 0)) em_str (em_op op_addA opm_add (em_dget hr.units (em_var (pv 0)) em_str (fun _ _ => rfl)) em_int))
    (ss_cons (s_if (bm_w (wm_and (bm_cmp (op_eqA hr.units) opm_eq (em_dget hr.units (em_var (pv 0)) em_str (fun _ _ => rfl)) em_int (nomark _)) (wm_and1 (bm_cmp op_lt opm_lt (em_dget hr.units (em_var (pv 0)) em_str (fun _ _ => rfl)) (em_blt call_len cm_len (by rfl) T.b_len PySem.boot_len (am_cons (em_dget hr.units (em_var (pv 0)) em_str (fun _ _ => rfl)) am_nil)) (nomark _))))) (ss_cons (s_set (i := 2) sc_law_take.nd rfl (Or.inl rfl) (em_bty call_int1 cm_int (by rfl) T.b_int PyProof.Rows.boot_int (am_cons (em_ix ix_seq opm_ix (em_dget hr.units (em_var (pv 0)) em_str (fun _ _ => rfl)) (em_dget hr.units (em_var (pv 0)) em_str (fun _ _ => rfl)) (fun _ _ => rfl)) am_nil)))
    (ss_cons (s_dput hr.units (em_var (pv 0)) em_str (em_op op_addA opm_add (em_dget hr.units (em_var (pv 0)) em_str (fun _ _ => rfl)) em_int))
    (ss_cons (s_dput hr.units (em_var (pv 0)) em_str (em_cmp (op_eqA hr.units) opm_eq (em_op op_mod opm_mod (em_var (pv 2)) em_int) em_int (nomark _)))
    (ss_cons (s_dput hr.units (em_var (pv 0)) em_str (em_op op_fdiv opm_div (em_blt call_abs cm_abs (by rfl) T.b_abs PyProof.Rows.boot_abs (am_cons (em_var (pv 2)) am_nil)) em_int))
    (ss_one (s_dput hr.units (em_var (pv 0)) em_str (em_ix ix_seq opm_ix (em_fls (lm_lst (am_cons em_int (am_cons em_int am_nil)))) (em_bty call_int1 cm_int (by rfl) T.b_int PyProof.Rows.boot_int (am_cons (em_dget hr.units (em_var (pv 0)) em_str (fun _ _ => rfl)) am_nil)) (fun _ _ => rfl)))))))) ss_nil)
    (ss_cons (s_if (bm_cmp (op_eqA hr.units) opm_eq (em_dget hr.units (em_var (pv 0)) em_str (fun _ _ => rfl)) em_int (nomark _)) (ss_one (s_ret (em_call (ok_law_mixed T) n_law_mixed (hr.mono (by decide)) (by rfl) T.g_law_mixed T.F_law_mixed.kp (bi_law_mixed T) .nil (fun _ => .nil) (am_cons (em_dget hr.units (em_var (pv 0)) em_str (fun _ _ => rfl)) (am_cons (em_dget hr.units (em_var (pv 0)) em_str (fun _ _ => rfl)) (am_cons (em_var (pv 1)) am_nil)))))) ss_nil)
    (ss_cons (s_dput hr.units (em_var (pv 0)) em_str (em_op op_sub opm_sub (em_dget hr.units (em_var (pv 0)) em_str (fun _ _ => rfl)) em_int))
    (ss_cons (s_if (bm_truth (em_dget hr.units (em_var (pv 0)) em_str (fun _ _ => rfl)) fun _ => rfl) (ss_one (s_ret (em_call (ok_law_mixed T) n_law_mixed (hr.mono (by decide)) (by rfl) T.g_law_mixed T.F_law_mixed.kp (bi_law_mixed T) .nil (fun _ => .nil) (am_cons (em_dget hr.units (em_var (pv 0)) em_str (fun _ _ => rfl)) (am_cons (em_dget hr.units (em_var (pv 0)) em_str (fun _ _ => rfl)) (am_cons (em_var (pv 1)) am_nil)))))) ss_nil)
    (ss_cons (s_set (i := 3) sc_law_take.nd rfl (Or.inl rfl) (em_op op_mod opm_mod (em_bty call_int1 cm_int (by rfl) T.b_int PyProof.Rows.boot_int (am_cons (em_dget hr.units (em_var (pv 0)) em_str (fun _ _ => rfl)) am_nil)) (em_var (pv 1))))
    (ss_cons (s_dput hr.units (em_var (pv 0)) em_str (em_op op_fdiv opm_div (em_dget hr.units (em_var (pv 0)) em_str (fun _ _ => rfl)) (em_var (pv 1))))
    (ss_cons (s_if (bm_cmp (op_eqA hr.units) opm_eq (em_dget hr.units (em_var (pv 0)) em_str (fun _ _ => rfl)) em_int (nomark _)) (ss_one (s_dput hr.units (em_var (pv 0)) em_str em_int)) ss_nil)
    (ss_one (s_ret (em_var (pv 3))))))))))))
theorem ok_law_names (T : Txt K mg) : FnOk P w K mg base CX0 3 T.a_law_names T.d_law_names ["pool", "n"] (spM K mg 2 f_law_names) := (fn_mir (k := 2) (m := m_law_names) T.F_law_names sc_law_names fun cdv A outer s H E hr =>
    (ss_cons (s_if (bm_cmp (op_eqA hr.units) opm_eq (em_call (ok_law_take T) n_law_take (hr.mono (by decide)) (by rfl) T.g_law_take T.F_law_take.kp (bi_law_take T) .nil (fun _ => .nil) (am_cons (em_var (pv 0)) (am_cons em_int am_nil))) em_int (nomark _)) (ss_one (s_ret (em_fls (lm_rg rfl (by rfl) T.b_list (by rfl) T.b_range (em_var (pv 1)))))) ss_nil)
    (ss_cons (s_set (i := 2) sc_law_names.nd rfl (Or.inr rfl) (em_ref (lm_rg rfl (by rfl) T.b_list (by rfl) T.b_range (em_var (pv 1)))))
    (ss_one (s_ret (em_fls (lm_lc (tc_one (by decide)) (pe_lc (own := [("k", 3)]) rfl sc_law_names.nd (im_rng1 (by rfl) T.b_range (am_cons (em_var (pv 1)) am_nil)) (blkOk_by (by kernel_rfl)) (fun _ _ _ _ _ => (pg_name (i := 3) sc_law_names.nd rfl (by first | exact Or.inl rfl | exact Or.inr rfl))) (fun _ _ _ _ _ => pts_y) (fun _ _ _ _ _ => (em_mth mm_popAt (pe_bm PySem.F.plainAttrs_list PySem.F.slot_list_pop PySem.F.type_list_pop mt_popAt (em_var (pv 2)) (am_cons (em_call (ok_law_take T) n_law_take (hr.mono (by decide)) (by rfl) T.g_law_take T.F_law_take.kp (bi_law_take T) .nil (fun _ => .nil) (am_cons (em_var (pv 0)) (am_cons (em_blt call_len cm_len (by rfl) T.b_len PySem.boot_len (am_cons (em_var (pv 2)) am_nil)) am_nil))) am_nil)))))))))))).imp cut_sp
theorem ok_law_space (T : Txt K mg) : FnOk P w K mg base CX0 1 T.a_law_space T.d_law_space ["names", "up"] (spM K mg 2 f_law_space) := (fn_mir (k := 0) (m := m_law_space) T.F_law_space sc_law_space fun cdv A outer s H E hr =>
    (ss_cons (s_set (i := 2) sc_law_space.nd rfl (Or.inr rfl) (em_blt call_len cm_len (by rfl) T.b_len PySem.boot_len (am_cons (em_var (pv 0)) am_nil)))
    (ss_cons (s_set (i := 3) sc_law_space.nd rfl (Or.inr rfl) (em_ref (lm_lc (tc_one (by decide)) (pe_lc (own := [("k", 4)]) rfl sc_law_space.nd (im_rng1 (by rfl) T.b_range (am_cons (em_var (pv 2)) am_nil)) (blkOk_by (by kernel_rfl)) (fun _ _ _ _ _ => (pg_name (i := 4) sc_law_space.nd rfl (by first | exact Or.inl rfl | exact Or.inr rfl))) (fun _ _ _ _ _ => pts_y) (fun _ _ _ _ _ => (em_ref (lm_rep (em_fls (lm_lst (am_cons em_int am_nil))) (em_var (pv 2)))))))))
    (ss_cons (s_pre (vs := [5, 6, 7]) (s_for PassesOwn.never rfl (im_rng1 (by rfl) T.b_range (am_cons (em_var (pv 2)) am_nil)) (pg_name (i := 5) sc_law_space.nd rfl (by first | exact Or.inl rfl | exact Or.inr rfl)) (tg_one 5) (ss_wip (vs := [5, 6, 7]) (ss_cons (s_set (i := 6) sc_law_space.nd rfl (Or.inl rfl) (em_ix ix_seq opm_ix (em_var (pv 3)) (em_ix ix_seq opm_ix (em_var (pv 0)) (em_var (pv 5)) (fun _ _ => rfl)) (fun _ _ => rfl)))
    (ss_one (s_pre (vs := [7]) (s_for PassesOwn.never rfl (im_rng1 (by rfl) T.b_range (am_cons (em_var (pv 2)) am_nil)) (pg_name (i := 7) sc_law_space.nd rfl (by first | exact Or.inl rfl | exact Or.inr rfl)) (tg_one 7) (ss_wip (vs := [7]) (ss_one (s_sub (em_ix ix_seq opm_ix (em_ix ix_seq opm_ix (em_var (pv 1)) (em_var (pv 5)) (fun _ _ => rfl)) (em_var (pv 7)) (fun _ _ => rfl)) (em_var (pv 6)) (em_ix ix_seq opm_ix (em_var (pv 0)) (em_var (pv 7)) (fun _ _ => rfl))))))))))))
    (ss_cons (s_set (i := 8) sc_law_space.nd rfl (Or.inl rfl) (em_fls (lm_lst am_nil)))
    (ss_cons (s_pre (vs := [9]) (s_for PassesOwn.never rfl (im_rng1 (by rfl) T.b_range (am_cons (em_var (pv 2)) am_nil)) (pg_name (i := 9) sc_law_space.nd rfl (by first | exact Or.inl rfl | exact Or.inr rfl)) (tg_one 9) (ss_wip (vs := [9]) (ss_one (s_set (i := 8) sc_law_space.nd rfl (Or.inl rfl) (em_fls (lm_cat (em_var (pv 8)) (em_fls (lm_lc (tc_one (by decide)) (pe_lc (own := [("y", 10)]) rfl sc_law_space.nd (im_rng1 (by rfl) T.b_range (am_cons (em_var (pv 2)) am_nil)) (blkOk_by (by kernel_rfl)) (fun _ _ _ _ _ => (pg_name (i := 10) sc_law_space.nd rfl (by first | exact Or.inl rfl | exact Or.inr rfl))) (fun _ _ _ _ _ => (pts_M (bm_cmp (op_eqA hr.units) opm_eq (em_ix ix_seq opm_ix (em_ix ix_seq opm_ix (em_var (pv 3)) (em_var (pv 9)) (fun _ _ => rfl)) (em_var (pv 10)) (fun _ _ => rfl)) em_int (nomark _)))) (fun _ _ _ _ _ => (em_tup (am_cons (em_var (pv 9)) (am_cons (em_var (pv 10)) am_nil))))))))))))))
    (ss_one (s_ret (em_disp (ps := [("order", (tupM (consA (varM 2) (consA (bltM tupF (consA (varM 8) nilA)) nilA)))), ("under", (frzM (varM 3))), ("names", (varM 0))]) (pps_cons em_str (em_tup (am_cons (em_var (pv 2)) (am_cons (em_bty call_tuple_of cm_tup (by rfl) T.b_tuple PyProof.Rows.boot_tuple (am_cons (em_var (pv 8)) am_nil)) am_nil))) (pps_cons em_str (em_frz (em_var (pv 3))) (pps_cons em_str (em_var (pv 0)) pps_nil))) rfl rfl (List.cons_ne_nil _ _) (by decide)))))))))).imp cut_sp
theorem ok_law_floors (T : Txt K mg) : FnOk P w K mg base CX0 4 T.a_law_floors T.d_law_floors ["pool", "n", "wide"] (spM K mg 3 f_law_floors) := fn_mir T.F_law_floors sc_law_floors fun cdv A outer s H E hr =>
    (ss_cons (s_lcF (tc_one (by decide)) (ps_setLc (i := 3) (own := [("i", 5)]) rfl sc_law_floors.nd rfl rfl (sw_true rfl rfl rfl (by decide +kernel)) (im_rng1 (by rfl) T.b_range (am_cons (em_var (pv 1)) am_nil)) (blkOk_by (by kernel_rfl)) (fun _ _ _ _ _ => (pg_name (i := 5) sc_law_floors.nd rfl (by first | exact Or.inl rfl | exact Or.inr rfl))) (fun _ _ _ _ _ => pts_y) (fun _ _ _ _ _ => (em_fls (lm_lc (tc_one (by decide)) (pe_lc (own := [("j", 4)]) rfl sc_law_floors.nd (im_rng1 (by rfl) T.b_range (am_cons (em_var (pv 1)) am_nil)) (blkOk_by (by kernel_rfl)) (fun _ _ _ _ _ => (pg_name (i := 4) sc_law_floors.nd rfl (by first | exact Or.inl rfl | exact Or.inr rfl))) (fun _ _ _ _ _ => pts_y) (fun _ _ _ _ _ => (em_bty call_int1 cm_int (by rfl) T.b_int PyProof.Rows.boot_int (am_cons (em_cmp op_lt opm_lt (em_op op_fdiv opm_div (em_var (pv 5)) (em_var (pv 2))) (em_op op_fdiv opm_div (em_var (pv 4)) (em_var (pv 2))) (nomark _)) am_nil)))))))))
    (ss_one (s_ret (em_call (ok_law_space T) n_law_space (hr.mono (by decide)) (by rfl) T.g_law_space T.F_law_space.kp (bi_law_space T) .nil (fun _ => .nil) (am_cons (em_call (ok_law_names T) n_law_names (hr.mono (by decide)) (by rfl) T.g_law_names T.F_law_names.kp (bi_law_names T) .nil (fun _ => .nil) (am_cons (em_var (pv 0)) (am_cons (em_var (pv 1)) am_nil))) (am_cons (em_var (pv 3)) am_nil))))))
theorem ok_law_drawn (T : Txt K mg) : FnOk P w K mg base CX0 5 T.a_law_drawn T.d_law_drawn ["pool", "n"] (spM K mg 2 f_law_drawn) := (fn_mir (k := 4) (m := m_law_drawn) T.F_law_drawn sc_law_drawn fun cdv A outer s H E hr =>
    (ss_cons (s_set (i := 2) sc_law_drawn.nd rfl (Or.inl rfl) (em_call (ok_law_take T) n_law_take (hr.mono (by decide)) (by rfl) T.g_law_take T.F_law_take.kp (bi_law_take T) .nil (fun _ => .nil) (am_cons (em_var (pv 0)) (am_cons em_int am_nil))))
    (ss_cons (s_if (bm_cmp op_lt opm_lt (em_var (pv 2)) em_int (nomark _)) (ss_one (s_ret (em_call (ok_law_floors T) n_law_floors (hr.mono (by decide)) (by rfl) T.g_law_floors T.F_law_floors.kp (bi_law_floors T) .nil (fun _ => .nil) (am_cons (em_var (pv 0)) (am_cons (em_var (pv 1)) (am_cons (em_op op_addA opm_add em_int (em_call (ok_law_take T) n_law_take (hr.mono (by decide)) (by rfl) T.g_law_take T.F_law_take.kp (bi_law_take T) .nil (fun _ => .nil) (am_cons (em_var (pv 0)) (am_cons (em_op op_addA opm_add (em_var (pv 1)) em_int) am_nil)))) am_nil)))))) ss_nil)
    (ss_cons (s_set (i := 3) sc_law_drawn.nd rfl (Or.inr rfl) (em_ref (lm_lc (tc_one (by decide)) (pe_lc (own := [("k", 4)]) rfl sc_law_drawn.nd (im_rng1 (by rfl) T.b_range (am_cons (em_var (pv 1)) am_nil)) (blkOk_by (by kernel_rfl)) (fun _ _ _ _ _ => (pg_name (i := 4) sc_law_drawn.nd rfl (by first | exact Or.inl rfl | exact Or.inr rfl))) (fun _ _ _ _ _ => pts_y) (fun _ _ _ _ _ => (em_ref (lm_rep (em_fls (lm_lst (am_cons em_int am_nil))) (em_var (pv 1)))))))))
    (ss_cons (s_pre (vs := [5, 6, 7]) (s_for PassesOwn.never rfl (im_rng1 (by rfl) T.b_range (am_cons (em_var (pv 1)) am_nil)) (pg_name (i := 5) sc_law_drawn.nd rfl (by first | exact Or.inl rfl | exact Or.inr rfl)) (tg_one 5) (ss_wip (vs := [5, 6, 7]) (ss_cons (s_set (i := 6) sc_law_drawn.nd rfl (Or.inl rfl) (em_ix ix_seq opm_ix (em_var (pv 3)) (em_var (pv 5)) (fun _ _ => rfl)))
    (ss_one (s_pre (vs := [7]) (s_for PassesOwn.never rfl (im_rng2 (by rfl) T.b_range (am_cons (em_op op_addA opm_add (em_var (pv 5)) em_int) (am_cons (em_var (pv 1)) am_nil))) (pg_name (i := 7) sc_law_drawn.nd rfl (by first | exact Or.inl rfl | exact Or.inr rfl)) (tg_one 7) (ss_wip (vs := [7]) (ss_one (s_sub (em_bty call_int1 cm_int (by rfl) T.b_int PyProof.Rows.boot_int (am_cons (em_cmp (op_eqA hr.units) opm_eq (em_call (ok_law_take T) n_law_take (hr.mono (by decide)) (by rfl) T.g_law_take T.F_law_take.kp (bi_law_take T) .nil (fun _ => .nil) (am_cons (em_var (pv 0)) (am_cons (em_ix ix_seq opm_ix (em_fls (lm_lst (am_cons em_int (am_cons em_int (am_cons em_int (am_cons em_int am_nil)))))) (em_op op_sub opm_sub (em_var (pv 2)) em_int) (fun _ _ => rfl)) am_nil))) em_int (nomark _)) am_nil)) (em_var (pv 6)) (em_var (pv 7))))))))))))
    (ss_cons (s_pre (vs := [4, 5]) (s_for PassesOwn.never rfl (im_rng1 (by rfl) T.b_range (am_cons (em_var (pv 1)) am_nil)) (pg_name (i := 4) sc_law_drawn.nd rfl (by first | exact Or.inl rfl | exact Or.inr rfl)) (tg_one 4) (ss_wip (vs := [4, 5]) (ss_one (s_pre (vs := [5]) (s_for PassesOwn.never rfl (im_rng1 (by rfl) T.b_range (am_cons (em_var (pv 4)) am_nil)) (pg_name (i := 5) sc_law_drawn.nd rfl (by first | exact Or.inl rfl | exact Or.inr rfl)) (tg_one 5) (ss_wip (vs := [5]) (ss_one (s_if (bm_cmp (op_eqA hr.units) opm_eq (em_ix ix_seq opm_ix (em_ix ix_seq opm_ix (em_var (pv 3)) (em_var (pv 5)) (fun _ _ => rfl)) (em_var (pv 4)) (fun _ _ => rfl)) em_int (nomark _)) (ss_one (s_sub (em_ref (lm_lc (tc_one (by decide)) (pe_lc (own := [("j", 7)]) rfl sc_law_drawn.nd (im_rng1 (by rfl) T.b_range (am_cons (em_var (pv 1)) am_nil)) (blkOk_by (by kernel_rfl)) (fun _ _ _ _ _ => (pg_name (i := 7) sc_law_drawn.nd rfl (by first | exact Or.inl rfl | exact Or.inr rfl))) (fun _ _ _ _ _ => pts_y) (fun _ _ _ _ _ => (em_bty call_int1 cm_int (by rfl) T.b_int PyProof.Rows.boot_int (am_cons (em_cmp op_gt opm_gt (em_op op_addA opm_add (em_ix ix_seq opm_ix (em_ix ix_seq opm_ix (em_var (pv 3)) (em_var (pv 5)) (fun _ _ => rfl)) (em_var (pv 7)) (fun _ _ => rfl)) (em_ix ix_seq opm_ix (em_ix ix_seq opm_ix (em_var (pv 3)) (em_var (pv 4)) (fun _ _ => rfl)) (em_var (pv 7)) (fun _ _ => rfl))) em_int (nomark _)) am_nil)))))) (em_var (pv 3)) (em_var (pv 5)))) ss_nil)))))))))
    (ss_one (s_ret (em_call (ok_law_space T) n_law_space (hr.mono (by decide)) (by rfl) T.g_law_space T.F_law_space.kp (bi_law_space T) .nil (fun _ => .nil) (am_cons (em_call (ok_law_names T) n_law_names (hr.mono (by decide)) (by rfl) T.g_law_names T.F_law_names.kp (bi_law_names T) .nil (fun _ => .nil) (am_cons (em_var (pv 0)) (am_cons (em_var (pv 1)) am_nil))) (am_cons (em_frz (em_var (pv 3))) am_nil))))))))))).imp cut_sp
theorem ok_law_leq (T : Txt K mg) : FnOk P w K mg base CX0 1 T.a_law_leq T.d_law_leq ["space", "a", "b"] (spM K mg 3 f_law_leq) := fn_mir T.F_law_leq sc_law_leq fun cdv A outer s H E hr =>
    (ss_one (s_ret (em_or (em_cmp (op_eqA hr.units) opm_eq (em_var (pv 1)) (em_var (pv 2)) (nomark _)) (em_one (em_cmp (op_eqA hr.units) opm_eq (em_ix ix_seq opm_ix (em_ix ix_seq opm_ix (em_dget hr.units (em_var (pv 0)) em_str (fun _ _ => rfl)) (em_var (pv 1)) (fun _ _ => rfl)) (em_var (pv 2)) (fun _ _ => rfl)) em_int (nomark _))))))
theorem ok_law_bounds (T : Txt K mg) : FnOk P w K mg base CX0 2 T.a_law_bounds T.d_law_bounds ["space", "values", "q"] (spM K mg 3 f_law_bounds) := fn_mir T.F_law_bounds sc_law_bounds fun cdv A outer s H E hr =>
    (ss_one (s_ret (em_cmp (op_eqA hr.units) opm_eq (em_blt call_len cm_len (by rfl) T.b_len PySem.boot_len (am_cons (em_fls (lm_lc (tc_one (by decide)) (pe_lc (own := [("one", 3)]) rfl sc_law_bounds.nd (im_seq (em_var (pv 1))) (blkOk_by (by kernel_rfl)) (fun _ _ _ _ _ => (pg_name (i := 3) sc_law_bounds.nd rfl (by first | exact Or.inl rfl | exact Or.inr rfl))) (fun _ _ _ _ _ => (pts_M (bm_not (bm_truth (em_call (ok_law_leq T) n_law_leq (hr.mono (by decide)) (by rfl) T.g_law_leq T.F_law_leq.kp (bi_law_leq T) .nil (fun _ => .nil) (am_cons (em_var (pv 0)) (am_cons (em_var (pv 3)) (am_cons (em_var (pv 2)) am_nil)))) fun _ => rfl)))) (fun _ _ _ _ _ => (em_var (pv 3)))))) am_nil)) em_int (nomark _))))
theorem ok_law_map (T : Txt K mg) : FnOk P w K mg base CX0 3 T.a_law_map T.d_law_map ["pool", "first", "second"] (spM K mg 3 f_law_map) := (fn_mir (k := 2) (m := m_law_map) T.F_law_map sc_law_map fun cdv A outer s H E hr =>
    (ss_cons (s_set (i := 3) sc_law_map.nd rfl (Or.inr rfl) (em_dget hr.units (em_var (pv 1)) em_str (fun _ _ => rfl)))
    (ss_cons (s_set (i := 4) sc_law_map.nd rfl (Or.inr rfl) (em_ref (lm_lc (tc_one (by decide)) (pe_lc (own := [("x", 5)]) rfl sc_law_map.nd (im_seq (em_var (pv 3))) (blkOk_by (by kernel_rfl)) (fun _ _ _ _ _ => (pg_name (i := 5) sc_law_map.nd rfl (by first | exact Or.inl rfl | exact Or.inr rfl))) (fun _ _ _ _ _ => pts_y) (fun _ _ _ _ _ => em_int)))))
    (ss_cons (s_pre (vs := [6, 7, 9, 11]) (s_for PassesOwn.never rfl (im_rng1 (by rfl) T.b_range (am_cons (em_blt call_len cm_len (by rfl) T.b_len PySem.boot_len (am_cons (em_var (pv 3)) am_nil)) am_nil)) (pg_name (i := 6) sc_law_map.nd rfl (by first | exact Or.inl rfl | exact Or.inr rfl)) (tg_one 6) (ss_wip (vs := [6, 7, 9, 11]) (ss_cons (s_set (i := 7) sc_law_map.nd rfl (Or.inr rfl) (em_fls (lm_lc (tc_one (by decide)) (pe_lc (own := [("y", 8)]) rfl sc_law_map.nd (im_seq (em_sli (em_var (pv 3)) om_none (om_some (em_var (pv 6))))) (blkOk_by (by kernel_rfl)) (fun _ _ _ _ _ => (pg_name (i := 8) sc_law_map.nd rfl (by first | exact Or.inl rfl | exact Or.inr rfl))) (fun _ _ _ _ _ => (pts_M (bm_cmp (op_eqA hr.units) opm_eq (em_ix ix_seq opm_ix (em_ix ix_seq opm_ix (em_dget hr.units (em_var (pv 1)) em_str (fun _ _ => rfl)) (em_var (pv 8)) (fun _ _ => rfl)) (em_ix ix_seq opm_ix (em_var (pv 3)) (em_var (pv 6)) (fun _ _ => rfl)) (fun _ _ => rfl)) em_int (nomark _)))) (fun _ _ _ _ _ => (em_ix ix_seq opm_ix (em_var (pv 4)) (em_var (pv 8)) (fun _ _ => rfl)))))))
    (ss_cons (s_lcF (tc_one (by decide)) (ps_setLc (i := 9) (own := [("q", 10)]) rfl sc_law_map.nd rfl rfl (sw_true rfl rfl rfl (by decide +kernel)) (im_rng1 (by rfl) T.b_range (am_cons (em_ix ix_seq opm_ix (em_dget hr.units (em_var (pv 2)) em_str (fun _ _ => rfl)) em_int (fun _ _ => rfl)) am_nil)) (blkOk_by (by kernel_rfl)) (fun _ _ _ _ _ => (pg_name (i := 10) sc_law_map.nd rfl (by first | exact Or.inl rfl | exact Or.inr rfl))) (fun _ _ _ _ _ => (pts_M (bm_truth (em_call (ok_law_bounds T) n_law_bounds (hr.mono (by decide)) (by rfl) T.g_law_bounds T.F_law_bounds.kp (bi_law_bounds T) .nil (fun _ => .nil) (am_cons (em_var (pv 2)) (am_cons (em_var (pv 7)) (am_cons (em_var (pv 10)) am_nil)))) fun _ => rfl))) (fun _ _ _ _ _ => (em_var (pv 10)))))
    (ss_cons (s_if (bm_cmp (op_eqA hr.units) opm_eq (em_blt call_len cm_len (by rfl) T.b_len PySem.boot_len (am_cons (em_var (pv 9)) am_nil)) em_int (nomark _)) (ss_cons (s_set (i := 11) sc_law_map.nd rfl (Or.inr rfl) (em_call (ok_law_take T) n_law_take (hr.mono (by decide)) (by rfl) T.g_law_take T.F_law_take.kp (bi_law_take T) .nil (fun _ => .nil) (am_cons (em_var (pv 0)) (am_cons (em_ix ix_seq opm_ix (em_dget hr.units (em_var (pv 2)) em_str (fun _ _ => rfl)) em_int (fun _ _ => rfl)) am_nil))))
    (ss_one (s_ret (em_bty call_tuple_of cm_tup (by rfl) T.b_tuple PyProof.Rows.boot_tuple (am_cons (em_fls (lm_lc (tc_one (by decide)) (pe_lc (own := [("x", 5)]) rfl sc_law_map.nd (im_seq (em_var (pv 3))) (blkOk_by (by kernel_rfl)) (fun _ _ _ _ _ => (pg_name (i := 5) sc_law_map.nd rfl (by first | exact Or.inl rfl | exact Or.inr rfl))) (fun _ _ _ _ _ => pts_y) (fun _ _ _ _ _ => (em_var (pv 11)))))) am_nil))))) ss_nil)
    (ss_one (s_sub (em_ix ix_seq opm_ix (em_var (pv 9)) (em_call (ok_law_take T) n_law_take (hr.mono (by decide)) (by rfl) T.g_law_take T.F_law_take.kp (bi_law_take T) .nil (fun _ => .nil) (am_cons (em_var (pv 0)) (am_cons (em_blt call_len cm_len (by rfl) T.b_len PySem.boot_len (am_cons (em_var (pv 9)) am_nil)) am_nil))) (fun _ _ => rfl)) (em_var (pv 4)) (em_ix ix_seq opm_ix (em_var (pv 3)) (em_var (pv 6)) (fun _ _ => rfl))))))))))
    (ss_one (s_ret (em_bty call_tuple_of cm_tup (by rfl) T.b_tuple PyProof.Rows.boot_tuple (am_cons (em_var (pv 4)) am_nil)))))))).imp cut_sp
theorem ok_law_rises (T : Txt K mg) : FnOk P w K mg base CX0 2 T.a_law_rises T.d_law_rises ["first", "second", "row"] (spM K mg 3 f_law_rises) := fn_mir T.F_law_rises sc_law_rises fun cdv A outer s H E hr =>
    (ss_cons (s_pre (vs := [3, 4]) (s_for PassesOwn.never rfl (im_seq (em_ix ix_seq opm_ix (em_dget hr.units (em_var (pv 0)) em_str (fun _ _ => rfl)) em_int (fun _ _ => rfl))) (pg_tup rfl (pgs_cons (pg_name (i := 3) sc_law_rises.nd rfl (by first | exact Or.inl rfl | exact Or.inr rfl)) (pgs_cons (pg_name (i := 4) sc_law_rises.nd rfl (by first | exact Or.inl rfl | exact Or.inr rfl)) pgs_nil))) (tg_tup [3, 4]) (ss_wip (vs := [3, 4]) (ss_one (s_if (bm_not (bm_truth (em_call (ok_law_leq T) n_law_leq (hr.mono (by decide)) (by rfl) T.g_law_leq T.F_law_leq.kp (bi_law_leq T) .nil (fun _ => .nil) (am_cons (em_var (pv 1)) (am_cons (em_ix ix_seq opm_ix (em_var (pv 2)) (em_var (pv 3)) (fun _ _ => rfl)) (am_cons (em_ix ix_seq opm_ix (em_var (pv 2)) (em_var (pv 4)) (fun _ _ => rfl)) am_nil)))) fun _ => rfl)) (ss_one (s_ret em_bl)) ss_nil)))))
    (ss_one (s_ret em_bl)))
theorem ok_law_moved (T : Txt K mg) : FnOk P w K mg base CX0 3 T.a_law_moved T.d_law_moved ["pool", "first", "second", "row", "up"] (spM K mg 5 f_law_moved) := fn_mir T.F_law_moved sc_law_moved fun cdv A outer s H E hr =>
    (ss_cons (s_set (i := 5) sc_law_moved.nd rfl (Or.inl rfl) (em_blt call_len cm_len (by rfl) T.b_len PySem.boot_len (am_cons (em_var (pv 3)) am_nil)))
    (ss_cons (s_pre (vs := [6, 7, 8, 9, 10]) (s_for PassesOwn.never rfl (im_rng1 (by rfl) T.b_range (am_cons (em_op op_mul opm_mul (em_call (ok_law_take T) n_law_take (hr.mono (by decide)) (by rfl) T.g_law_take T.F_law_take.kp (bi_law_take T) .nil (fun _ => .nil) (am_cons (em_var (pv 0)) (am_cons em_int am_nil))) (em_bty call_int1 cm_int (by rfl) T.b_int PyProof.Rows.boot_int (am_cons (em_cmp op_gt opm_gt (em_var (pv 5)) em_int (nomark _)) am_nil))) am_nil)) (pg_name (i := 6) sc_law_moved.nd rfl (by first | exact Or.inl rfl | exact Or.inr rfl)) (tg_one 6) (ss_wip (vs := [6, 7, 8, 9, 10]) (ss_cons (s_set (i := 7) sc_law_moved.nd rfl (Or.inl rfl) (em_call (ok_law_take T) n_law_take (hr.mono (by decide)) (by rfl) T.g_law_take T.F_law_take.kp (bi_law_take T) .nil (fun _ => .nil) (am_cons (em_var (pv 0)) (am_cons (em_var (pv 5)) am_nil))))
    (ss_cons (s_set (i := 8) sc_law_moved.nd rfl (Or.inl rfl) (em_call (ok_law_take T) n_law_take (hr.mono (by decide)) (by rfl) T.g_law_take T.F_law_take.kp (bi_law_take T) .nil (fun _ => .nil) (am_cons (em_var (pv 0)) (am_cons (em_ix ix_seq opm_ix (em_dget hr.units (em_var (pv 2)) em_str (fun _ _ => rfl)) em_int (fun _ _ => rfl)) am_nil))))
    (ss_cons (s_set (i := 9) sc_law_moved.nd rfl (Or.inl rfl) (em_op op_addA opm_add (em_op op_addA opm_add (em_sli (em_var (pv 3)) om_none (om_some (em_var (pv 7)))) (em_tup (am_cons (em_var (pv 8)) am_nil))) (em_sli (em_var (pv 3)) (om_some (em_op op_addA opm_add (em_var (pv 7)) em_int)) om_none)))
    (ss_cons (s_set (i := 10) sc_law_moved.nd rfl (Or.inl rfl) (em_ix ix_seq opm_ix (em_fls (lm_lst (am_cons (em_fls (lm_lst (am_cons (em_var (pv 8)) (am_cons (em_ix ix_seq opm_ix (em_var (pv 3)) (em_var (pv 7)) (fun _ _ => rfl)) am_nil)))) (am_cons (em_fls (lm_lst (am_cons (em_ix ix_seq opm_ix (em_var (pv 3)) (em_var (pv 7)) (fun _ _ => rfl)) (am_cons (em_var (pv 8)) am_nil)))) am_nil)))) (em_bty call_int1 cm_int (by rfl) T.b_int PyProof.Rows.boot_int (am_cons (em_var (pv 4)) am_nil)) (fun _ _ => rfl)))
    (ss_one (s_if (bm_w (wm_and (bm_truth (em_call (ok_law_leq T) n_law_leq (hr.mono (by decide)) (by rfl) T.g_law_leq T.F_law_leq.kp (bi_law_leq T) .nil (fun _ => .nil) (am_cons (em_var (pv 2)) (am_cons (em_ix ix_seq opm_ix (em_var (pv 10)) em_int (fun _ _ => rfl)) (am_cons (em_ix ix_seq opm_ix (em_var (pv 10)) em_int (fun _ _ => rfl)) am_nil)))) fun _ => rfl) (wm_and1 (bm_truth (em_call (ok_law_rises T) n_law_rises (hr.mono (by decide)) (by rfl) T.g_law_rises T.F_law_rises.kp (bi_law_rises T) .nil (fun _ => .nil) (am_cons (em_var (pv 1)) (am_cons (em_var (pv 2)) (am_cons (em_var (pv 9)) am_nil)))) fun _ => rfl)))) (ss_one (s_set (i := 3) sc_law_moved.nd rfl (Or.inl rfl) (em_var (pv 9)))) ss_nil)))))))))
    (ss_one (s_ret (em_var (pv 3))))))
theorem ok_law_sizes (T : Txt K mg) : FnOk P w K mg base CX0 3 T.a_law_sizes T.d_law_sizes ["pool"] (spM K mg 1 f_law_sizes) := (fn_mir (k := 2) (m := m_law_sizes) T.F_law_sizes sc_law_sizes fun cdv A outer s H E hr =>
    (ss_cons (s_lcR (tc_one (by decide)) (ps_setLc (i := 1) (own := [("k", 2)]) rfl sc_law_sizes.nd rfl rfl (sw_true rfl rfl rfl (by decide +kernel)) (im_rng1 (by rfl) T.b_range (am_cons em_int am_nil)) (blkOk_by (by kernel_rfl)) (fun _ _ _ _ _ => (pg_name (i := 2) sc_law_sizes.nd rfl (by first | exact Or.inl rfl | exact Or.inr rfl))) (fun _ _ _ _ _ => pts_y) (fun _ _ _ _ _ => (em_op op_addA opm_add em_int (em_call (ok_law_take T) n_law_take (hr.mono (by decide)) (by rfl) T.g_law_take T.F_law_take.kp (bi_law_take T) .nil (fun _ => .nil) (am_cons (em_var (pv 0)) (am_cons em_int am_nil)))))))
    (ss_cons (s_if (bm_cmp (op_eqA hr.units) opm_eq (em_call (ok_law_take T) n_law_take (hr.mono (by decide)) (by rfl) T.g_law_take T.F_law_take.kp (bi_law_take T) .nil (fun _ => .nil) (am_cons (em_var (pv 0)) (am_cons em_int am_nil))) em_int (nomark _)) (ss_one (s_pre (vs := [2]) (s_for PassesOwn.never rfl (im_rng1 (by rfl) T.b_range (am_cons (em_op op_addA opm_add em_int (em_call (ok_law_take T) n_law_take (hr.mono (by decide)) (by rfl) T.g_law_take T.F_law_take.kp (bi_law_take T) .nil (fun _ => .nil) (am_cons (em_var (pv 0)) (am_cons em_int am_nil)))) am_nil)) (pg_name (i := 2) sc_law_sizes.nd rfl (by first | exact Or.inl rfl | exact Or.inr rfl)) (tg_one 2) (ss_wip (vs := [2]) (ss_one (s_sub em_int (em_var (pv 1)) (em_var (pv 2)))))))) ss_nil)
    (ss_one (s_ret (em_frz (em_var (pv 1)))))))).imp cut_sp
theorem ok_identity_map (T : Txt K mg) : FnOk P w K mg base CX0 1 T.a_identity_map T.d_identity_map ["order"] (spM K mg 1 f_identity_map) := fn_mir T.F_identity_map sc_identity_map fun cdv A outer s H E hr =>
    (ss_one (s_ret (em_rgT rfl (by rfl) T.b_tuple (by rfl) T.b_range (em_ix ix_seq opm_ix (em_var (pv 0)) em_int (fun _ _ => rfl)))))
theorem ok_compose (T : Txt K mg) : FnOk P w K mg base CX0 1 T.a_compose T.d_compose ["row", "after"] (spM K mg 2 f_compose) := fn_mir T.F_compose sc_compose fun cdv A outer s H E hr =>
    (ss_one (s_ret (em_bty call_tuple_of cm_tup (by rfl) T.b_tuple PyProof.Rows.boot_tuple (am_cons (em_fls (lm_lc (tc_one (by decide)) (pe_lc (own := [("value", 2)]) rfl sc_compose.nd (im_seq (em_var (pv 0))) (blkOk_by (by kernel_rfl)) (fun _ _ _ _ _ => (pg_name (i := 2) sc_compose.nd rfl (by first | exact Or.inl rfl | exact Or.inr rfl))) (fun _ _ _ _ _ => pts_y) (fun _ _ _ _ _ => (em_ix ix_seq opm_ix (em_var (pv 1)) (em_var (pv 2)) (fun _ _ => rfl)))))) am_nil))))
theorem okr_law_same (T : Txt K mg) : ∀ j : Nat, FnOk P w K mg base CX0 (1 + j) T.a_law_same T.d_law_same ["actual", "due"] (spM K mg 2 (fr_law_same j))
  | 0 => by
    refine ⟨fun vs H Q E h => ?_, fun A outer s H args us vs Q E hr e0 hb r h => ?_⟩
    · obtain ⟨W, h, xs, _, _, _, _, p⟩ := h
      exact p.elim
    · obtain ⟨W, h, xs, _, _, _, _, p⟩ := h
      exact p.elim
  | j + 1 => by
    have ih := okr_law_same T j
    have hn := nr_law_same j
    refine fn_mir (k := 1 + j) T.F_law_same sc_law_same fun cdv A outer s H E hr => ?_
    exact (ss_cons (s_if (bm_truth (em_isi .tuple (by decide) (by rfl) T.b_isinstance (pe_bltn (by rfl) T.b_tuple PyProof.Rows.boot_tuple rfl) (em_var (pv 1))) fun _ => rfl) (ss_cons (s_if (bm_w (wm_or (bm_not (bm_truth (em_isi .tuple (by decide) (by rfl) T.b_isinstance (pe_bltn (by rfl) T.b_tuple PyProof.Rows.boot_tuple rfl) (em_var (pv 0))) fun _ => rfl)) (wm_or1 (bm_cmp (op_neA hr.units) opm_ne (em_blt call_len cm_len (by rfl) T.b_len PySem.boot_len (am_cons (em_var (pv 0)) am_nil)) (em_blt call_len cm_len (by rfl) T.b_len PySem.boot_len (am_cons (em_var (pv 1)) am_nil)) (nomark _))))) (ss_one (s_ret em_bl)) ss_nil)
    (ss_cons (s_pre (vs := [2]) (s_for PassesOwn.never rfl (im_rng1 (by rfl) T.b_range (am_cons (em_blt call_len cm_len (by rfl) T.b_len PySem.boot_len (am_cons (em_var (pv 1)) am_nil)) am_nil)) (pg_name (i := 2) sc_law_same.nd rfl (by first | exact Or.inl rfl | exact Or.inr rfl)) (tg_one 2) (ss_wip (vs := [2]) (ss_one (s_if (bm_not (bm_truth (em_call (ih) (hn) (hr.mono (by omega)) (by rfl) T.g_law_same T.F_law_same.kp (bi_law_same T) .nil (fun _ => .nil) (am_cons (em_ix ix_seq opm_ix (em_var (pv 0)) (em_var (pv 2)) (fun _ _ => rfl)) (am_cons (em_ix ix_seq opm_ix (em_var (pv 1)) (em_var (pv 2)) (fun _ _ => rfl)) am_nil))) fun _ => rfl)) (ss_one (s_ret em_bl)) ss_nil)))))
    (ss_one (s_ret em_bl)))) ss_nil)
    (ss_cons (s_if (bm_cmp op_isN opm_isn (em_var (pv 1)) em_non (nomark _)) (ss_one (s_ret (em_cmp op_isN opm_isn (em_var (pv 0)) em_non (nomark _)))) ss_nil)
    (ss_cons (s_if (bm_truth (em_isi .bool (by decide) (by rfl) T.b_isinstance (pe_bltn (by rfl) T.b_bool (by decide +kernel) rfl) (em_var (pv 1))) fun _ => rfl) (ss_one (s_ret (em_and (em_isi .bool (by decide) (by rfl) T.b_isinstance (pe_bltn (by rfl) T.b_bool (by decide +kernel) rfl) (em_var (pv 0))) (em_one (em_cmp (op_eqA hr.units) opm_eq (em_var (pv 0)) (em_var (pv 1)) (nomark _)))))) ss_nil)
    (ss_cons (s_if (bm_truth (em_isi .str (by decide) (by rfl) T.b_isinstance (pe_bltn (by rfl) T.b_str PyProof.Rows.boot_str rfl) (em_var (pv 1))) fun _ => rfl) (ss_one (s_ret (em_and (em_isi .str (by decide) (by rfl) T.b_isinstance (pe_bltn (by rfl) T.b_str PyProof.Rows.boot_str rfl) (em_var (pv 0))) (em_one (em_cmp (op_eqA hr.units) opm_eq (em_var (pv 0)) (em_var (pv 1)) (nomark _)))))) ss_nil)
    (ss_one (s_ret (em_and (em_isi .int (by decide) (by rfl) T.b_isinstance (pe_bltn (by rfl) T.b_int PyProof.Rows.boot_int rfl) (em_var (pv 0))) (em_and (em_not (em_isi .bool (by decide) (by rfl) T.b_isinstance (pe_bltn (by rfl) T.b_bool (by decide +kernel) rfl) (em_var (pv 0)))) (em_one (em_cmp (op_eqA hr.units) opm_eq (em_var (pv 0)) (em_var (pv 1)) (nomark _)))))))))))
theorem ok_law_same (T : Txt K mg) : FnOk P w K mg base CX0 9 T.a_law_same T.d_law_same ["actual", "due"] (spM K mg 2 f_law_same) := okr_law_same T 8
theorem ok_law_composed (T : Txt K mg) : FnOk P w K mg base CX0 1 T.a_law_composed T.d_law_composed ["row", "after"] (spM K mg 2 f_law_composed) := fn_mir T.F_law_composed sc_law_composed fun cdv A outer s H E hr =>
    (ss_cons (s_set (i := 2) sc_law_composed.nd rfl (Or.inl rfl) (em_tup am_nil))
    (ss_cons (s_pre (vs := [3]) (s_for PassesOwn.never rfl (im_seq (em_var (pv 0))) (pg_name (i := 3) sc_law_composed.nd rfl (by first | exact Or.inl rfl | exact Or.inr rfl)) (tg_one 3) (ss_wip (vs := [3]) (ss_one (s_set (i := 2) sc_law_composed.nd rfl (Or.inl rfl) (em_op op_addA opm_add (em_var (pv 2)) (em_tup (am_cons (em_ix ix_seq opm_ix (em_var (pv 1)) (em_var (pv 3)) (fun _ _ => rfl)) am_nil))))))))
    (ss_one (s_ret (em_var (pv 2))))))
theorem ok_law_composes_right (T : Txt K mg) : FnOk P w K mg base CX0 10 T.a_law_composes_right T.d_law_composes_right ["spaces", "rows"] (spM K mg 2 f_law_composes_right) := fn_mir T.F_law_composes_right sc_law_composes_right fun cdv A outer s H E hr =>
    (ss_cons (s_pre (vs := [2, 3, 4, 5]) (s_for PassesOwn.never rfl (im_rng1 (by rfl) T.b_range (am_cons em_int am_nil)) (pg_name (i := 2) sc_law_composes_right.nd rfl (by first | exact Or.inl rfl | exact Or.inr rfl)) (tg_one 2) (ss_wip (vs := [2, 3, 4, 5]) (ss_cons (s_set (i := 3) sc_law_composes_right.nd rfl (Or.inl rfl) (em_ix ix_seq opm_ix (em_var (pv 1)) (em_var (pv 2)) (fun _ _ => rfl)))
    (ss_cons (s_set (i := 4) sc_law_composes_right.nd rfl (Or.inl rfl) (em_fls (lm_lst (am_cons (em_call (ok_identity_map T) n_identity_map (hr.mono (by decide)) (by rfl) T.g_identity_map T.F_identity_map.kp (bi_identity_map T) .nil (fun _ => .nil) (am_cons (em_dget hr.units (em_ix ix_seq opm_ix (em_var (pv 0)) (em_var (pv 2)) (fun _ _ => rfl)) em_str (fun _ _ => rfl)) am_nil)) (am_cons (em_callK0 (ok_identity_map T) n_identity_map (hr.mono (by decide)) (by rfl) T.g_identity_map T.F_identity_map.kp (kb_identity_map_0 T) (fun _ => .nil) (km_cons (em_dget hr.units (em_ix ix_seq opm_ix (em_var (pv 0)) (em_op op_addA opm_add (em_var (pv 2)) em_int) (fun _ _ => rfl)) em_str (fun _ _ => rfl)) km_nil)) am_nil)))))
    (ss_cons (s_pre (vs := [5]) (s_for PassesOwn.never rfl (im_rng1 (by rfl) T.b_range (am_cons em_int am_nil)) (pg_name (i := 5) sc_law_composes_right.nd rfl (by first | exact Or.inl rfl | exact Or.inr rfl)) (tg_one 5) (ss_wip (vs := [5]) (ss_one (s_if (bm_not (bm_truth (em_call (ok_law_same T) n_law_same (hr.mono (by decide)) (by rfl) T.g_law_same T.F_law_same.kp (bi_law_same T) .nil (fun _ => .nil) (am_cons (em_ix ix_seq opm_ix (em_var (pv 4)) (em_var (pv 5)) (fun _ _ => rfl)) (am_cons (em_rgT rfl (by rfl) T.b_tuple (by rfl) T.b_range (em_ix ix_seq opm_ix (em_dget hr.units (em_ix ix_seq opm_ix (em_var (pv 0)) (em_op op_addA opm_add (em_var (pv 2)) (em_var (pv 5))) (fun _ _ => rfl)) em_str (fun _ _ => rfl)) em_int (fun _ _ => rfl))) am_nil))) fun _ => rfl)) (ss_one (s_ret em_bl)) ss_nil)))))
    (ss_one (s_if (bm_w (wm_or (bm_not (bm_truth (em_call (ok_law_same T) n_law_same (hr.mono (by decide)) (by rfl) T.g_law_same T.F_law_same.kp (bi_law_same T) .nil (fun _ => .nil) (am_cons (em_call (ok_compose T) n_compose (hr.mono (by decide)) (by rfl) T.g_compose T.F_compose.kp (bi_compose T) .nil (fun _ => .nil) (am_cons (em_ix ix_seq opm_ix (em_var (pv 4)) em_int (fun _ _ => rfl)) (am_cons (em_var (pv 3)) am_nil))) (am_cons (em_var (pv 3)) am_nil))) fun _ => rfl)) (wm_or1 (bm_not (bm_truth (em_call (ok_law_same T) n_law_same (hr.mono (by decide)) (by rfl) T.g_law_same T.F_law_same.kp (bi_law_same T) .nil (fun _ => .nil) (am_cons (em_callK0 (ok_compose T) n_compose (hr.mono (by decide)) (by rfl) T.g_compose T.F_compose.kp (kb_compose_0 T) (fun _ => .nil) (km_cons (em_var (pv 3)) (km_cons (em_ix ix_seq opm_ix (em_var (pv 4)) em_int (fun _ _ => rfl)) km_nil))) (am_cons (em_var (pv 3)) am_nil))) fun _ => rfl))))) (ss_one (s_ret em_bl)) ss_nil))))))))
    (ss_cons (s_set (i := 6) sc_law_composes_right.nd rfl (Or.inl rfl) (em_call (ok_law_composed T) n_law_composed (hr.mono (by decide)) (by rfl) T.g_law_composed T.F_law_composed.kp (bi_law_composed T) .nil (fun _ => .nil) (am_cons (em_ix ix_seq opm_ix (em_var (pv 1)) em_int (fun _ _ => rfl)) (am_cons (em_ix ix_seq opm_ix (em_var (pv 1)) em_int (fun _ _ => rfl)) am_nil))))
    (ss_cons (s_set (i := 7) sc_law_composes_right.nd rfl (Or.inl rfl) (em_call (ok_law_composed T) n_law_composed (hr.mono (by decide)) (by rfl) T.g_law_composed T.F_law_composed.kp (bi_law_composed T) .nil (fun _ => .nil) (am_cons (em_ix ix_seq opm_ix (em_var (pv 1)) em_int (fun _ _ => rfl)) (am_cons (em_ix ix_seq opm_ix (em_var (pv 1)) em_int (fun _ _ => rfl)) am_nil))))
    (ss_cons (s_if (bm_w (wm_or (bm_not (bm_truth (em_call (ok_law_same T) n_law_same (hr.mono (by decide)) (by rfl) T.g_law_same T.F_law_same.kp (bi_law_same T) .nil (fun _ => .nil) (am_cons (em_call (ok_compose T) n_compose (hr.mono (by decide)) (by rfl) T.g_compose T.F_compose.kp (bi_compose T) .nil (fun _ => .nil) (am_cons (em_ix ix_seq opm_ix (em_var (pv 1)) em_int (fun _ _ => rfl)) (am_cons (em_ix ix_seq opm_ix (em_var (pv 1)) em_int (fun _ _ => rfl)) am_nil))) (am_cons (em_var (pv 6)) am_nil))) fun _ => rfl)) (wm_or1 (bm_not (bm_truth (em_call (ok_law_same T) n_law_same (hr.mono (by decide)) (by rfl) T.g_law_same T.F_law_same.kp (bi_law_same T) .nil (fun _ => .nil) (am_cons (em_callK0 (ok_compose T) n_compose (hr.mono (by decide)) (by rfl) T.g_compose T.F_compose.kp (kb_compose_1 T) (fun _ => .nil) (km_cons (em_ix ix_seq opm_ix (em_var (pv 1)) em_int (fun _ _ => rfl)) (km_cons (em_ix ix_seq opm_ix (em_var (pv 1)) em_int (fun _ _ => rfl)) km_nil))) (am_cons (em_var (pv 7)) am_nil))) fun _ => rfl))))) (ss_one (s_ret em_bl)) ss_nil)
    (ss_cons (s_set (i := 8) sc_law_composes_right.nd rfl (Or.inl rfl) (em_bty call_tuple_of cm_tup (by rfl) T.b_tuple PyProof.Rows.boot_tuple (am_cons (em_fls (lm_lc (tc_one (by decide)) (pe_lc (own := [("x", 9)]) rfl sc_law_composes_right.nd (im_seq (em_var (pv 6))) (blkOk_by (by kernel_rfl)) (fun _ _ _ _ _ => (pg_name (i := 9) sc_law_composes_right.nd rfl (by first | exact Or.inl rfl | exact Or.inr rfl))) (fun _ _ _ _ _ => pts_y) (fun _ _ _ _ _ => (em_ix ix_seq opm_ix (em_ix ix_seq opm_ix (em_var (pv 1)) em_int (fun _ _ => rfl)) (em_var (pv 9)) (fun _ _ => rfl)))))) am_nil)))
    (ss_one (s_ret (em_and (em_call (ok_law_same T) n_law_same (hr.mono (by decide)) (by rfl) T.g_law_same T.F_law_same.kp (bi_law_same T) .nil (fun _ => .nil) (am_cons (em_call (ok_compose T) n_compose (hr.mono (by decide)) (by rfl) T.g_compose T.F_compose.kp (bi_compose T) .nil (fun _ => .nil) (am_cons (em_var (pv 6)) (am_cons (em_ix ix_seq opm_ix (em_var (pv 1)) em_int (fun _ _ => rfl)) am_nil))) (am_cons (em_var (pv 8)) am_nil))) (em_one (em_call (ok_law_same T) n_law_same (hr.mono (by decide)) (by rfl) T.g_law_same T.F_law_same.kp (bi_law_same T) .nil (fun _ => .nil) (am_cons (em_call (ok_compose T) n_compose (hr.mono (by decide)) (by rfl) T.g_compose T.F_compose.kp (bi_compose T) .nil (fun _ => .nil) (am_cons (em_ix ix_seq opm_ix (em_var (pv 1)) em_int (fun _ _ => rfl)) (am_cons (em_var (pv 7)) am_nil))) (am_cons (em_var (pv 8)) am_nil))))))))))))
theorem ok_law_turns_right (T : Txt K mg) : FnOk P w K mg base CX0 10 T.a_law_turns_right T.d_law_turns_right ["pool", "space"] (spM K mg 2 f_law_turns_right) := fn_mir T.F_law_turns_right sc_law_turns_right fun cdv A outer s H E hr =>
    (ss_cons (s_set (i := 2) sc_law_turns_right.nd rfl (Or.inl rfl) (em_call (ok_law_map T) n_law_map (hr.mono (by decide)) (by rfl) T.g_law_map T.F_law_map.kp (bi_law_map T) .nil (fun _ => .nil) (am_cons (em_var (pv 0)) (am_cons (em_var (pv 1)) (am_cons (em_var (pv 1)) am_nil)))))
    (ss_cons (s_set (i := 3) sc_law_turns_right.nd rfl (Or.inl rfl) (em_call (ok_law_map T) n_law_map (hr.mono (by decide)) (by rfl) T.g_law_map T.F_law_map.kp (bi_law_map T) .nil (fun _ => .nil) (am_cons (em_var (pv 0)) (am_cons (em_var (pv 1)) (am_cons (em_var (pv 1)) am_nil)))))
    (ss_cons (s_if (bm_not (bm_truth (em_call (ok_law_same T) n_law_same (hr.mono (by decide)) (by rfl) T.g_law_same T.F_law_same.kp (bi_law_same T) .nil (fun _ => .nil) (am_cons (em_call (ok_compose T) n_compose (hr.mono (by decide)) (by rfl) T.g_compose T.F_compose.kp (bi_compose T) .nil (fun _ => .nil) (am_cons (em_var (pv 2)) (am_cons (em_var (pv 3)) am_nil))) (am_cons (em_call (ok_law_composed T) n_law_composed (hr.mono (by decide)) (by rfl) T.g_law_composed T.F_law_composed.kp (bi_law_composed T) .nil (fun _ => .nil) (am_cons (em_var (pv 2)) (am_cons (em_var (pv 3)) am_nil))) am_nil))) fun _ => rfl)) (ss_one (s_ret em_bl)) ss_nil)
    (ss_one (s_ret (em_call (ok_law_same T) n_law_same (hr.mono (by decide)) (by rfl) T.g_law_same T.F_law_same.kp (bi_law_same T) .nil (fun _ => .nil) (am_cons (em_call (ok_compose T) n_compose (hr.mono (by decide)) (by rfl) T.g_compose T.F_compose.kp (bi_compose T) .nil (fun _ => .nil) (am_cons (em_var (pv 3)) (am_cons (em_var (pv 2)) am_nil))) (am_cons (em_call (ok_law_composed T) n_law_composed (hr.mono (by decide)) (by rfl) T.g_law_composed T.F_law_composed.kp (bi_law_composed T) .nil (fun _ => .nil) (am_cons (em_var (pv 3)) (am_cons (em_var (pv 2)) am_nil))) am_nil))))))))
theorem ok_is_below (T : Txt K mg) : FnOk P w K mg base CX0 1 T.a_is_below T.d_is_below ["order", "x", "y"] (spM K mg 3 f_is_below) := fn_mir T.F_is_below sc_is_below fun cdv A outer s H E hr =>
    (ss_cons (s_set (i := 3) sc_is_below.nd rfl (Or.inl rfl) (em_ix ix_seq opm_ix (em_var (pv 0)) em_int (fun _ _ => rfl)))
    (ss_cons (s_set (i := 4) sc_is_below.nd rfl (Or.inl rfl) em_int)
    (ss_cons (s_set (i := 5) sc_is_below.nd rfl (Or.inl rfl) (em_blt call_len cm_len (by rfl) T.b_len PySem.boot_len (am_cons (em_var (pv 3)) am_nil)))
    (ss_cons (s_pre (vs := [6]) (s_while 1000000 PassesOwn.never (bm_cmp op_lt opm_lt (em_var (pv 4)) (em_var (pv 5)) (nomark _)) (ss_wip (vs := [6]) (ss_cons (s_set (i := 6) sc_is_below.nd rfl (Or.inl rfl) (em_op op_fdiv opm_div (em_op op_addA opm_add (em_var (pv 4)) (em_var (pv 5))) em_int))
    (ss_one (s_if (bm_cmp (op_ltA hr.units) opm_ltA (em_ix ix_seq opm_ix (em_var (pv 3)) (em_var (pv 6)) (fun _ _ => rfl)) (em_tup (am_cons (em_var (pv 1)) (am_cons (em_var (pv 2)) am_nil))) (nomark _)) (ss_one (s_set (i := 4) sc_is_below.nd rfl (Or.inl rfl) (em_op op_addA opm_add (em_var (pv 6)) em_int))) (ss_one (s_set (i := 5) sc_is_below.nd rfl (Or.inl rfl) (em_var (pv 6))))))))))
    (ss_one (s_ret (em_and (em_cmp op_lt opm_lt (em_var (pv 4)) (em_blt call_len cm_len (by rfl) T.b_len PySem.boot_len (am_cons (em_var (pv 3)) am_nil)) (nomark _)) (em_one (em_cmp (op_eqA hr.units) opm_eq (em_ix ix_seq opm_ix (em_var (pv 3)) (em_var (pv 4)) (fun _ _ => rfl)) (em_tup (am_cons (em_var (pv 1)) (am_cons (em_var (pv 2)) am_nil))) (nomark _))))))))))
theorem ok_at_most (T : Txt K mg) : FnOk P w K mg base CX0 2 T.a_at_most T.d_at_most ["second", "low", "high"] (spM K mg 3 f_at_most) := fn_mir T.F_at_most sc_at_most fun cdv A outer s H E hr =>
    (ss_cons (s_pre (vs := [3, 4]) (s_for PassesOwn.never rfl (im_enm (by rfl) T.b_enumerate (am_cons (em_var (pv 1)) am_nil)) (pg_tup rfl (pgs_cons (pg_name (i := 3) sc_at_most.nd rfl (by first | exact Or.inl rfl | exact Or.inr rfl)) (pgs_cons (pg_name (i := 4) sc_at_most.nd rfl (by first | exact Or.inl rfl | exact Or.inr rfl)) pgs_nil))) (tg_tup [3, 4]) (ss_wip (vs := [3, 4]) (ss_one (s_if (bm_w (wm_and (bm_cmp (op_neA hr.units) opm_ne (em_var (pv 4)) (em_ix ix_seq opm_ix (em_var (pv 2)) (em_var (pv 3)) (fun _ _ => rfl)) (nomark _)) (wm_and1 (bm_not (bm_truth (em_call (ok_is_below T) n_is_below (hr.mono (by decide)) (by rfl) T.g_is_below T.F_is_below.kp (bi_is_below T) .nil (fun _ => .nil) (am_cons (em_var (pv 0)) (am_cons (em_var (pv 4)) (am_cons (em_ix ix_seq opm_ix (em_var (pv 2)) (em_var (pv 3)) (fun _ _ => rfl)) am_nil)))) fun _ => rfl))))) (ss_one (s_ret em_bl)) ss_nil)))))
    (ss_one (s_ret em_bl)))
theorem ok_are_neighbours (T : Txt K mg) : FnOk P w K mg base CX0 3 T.a_are_neighbours T.d_are_neighbours ["second", "row", "other"] (spM K mg 3 f_are_neighbours) := fn_mir T.F_are_neighbours sc_are_neighbours fun cdv A outer s H E hr =>
    (ss_one (s_ret (em_or (em_call (ok_at_most T) n_at_most (hr.mono (by decide)) (by rfl) T.g_at_most T.F_at_most.kp (bi_at_most T) .nil (fun _ => .nil) (am_cons (em_var (pv 0)) (am_cons (em_var (pv 1)) (am_cons (em_var (pv 2)) am_nil)))) (em_one (em_call (ok_at_most T) n_at_most (hr.mono (by decide)) (by rfl) T.g_at_most T.F_at_most.kp (bi_at_most T) .nil (fun _ => .nil) (am_cons (em_var (pv 0)) (am_cons (em_var (pv 2)) (am_cons (em_var (pv 1)) am_nil))))))))
theorem ok_law_is_most (T : Txt K mg) : FnOk P w K mg base CX0 2 T.a_law_is_most T.d_law_is_most ["second", "low", "high"] (spM K mg 3 f_law_is_most) := fn_mir T.F_law_is_most sc_law_is_most fun cdv A outer s H E hr =>
    (ss_one (s_ret (em_cmp (op_eqA hr.units) opm_eq (em_blt call_len cm_len (by rfl) T.b_len PySem.boot_len (am_cons (em_fls (lm_lc (tc_one (by decide)) (pe_lc (own := [("x", 3)]) rfl sc_law_is_most.nd (im_rng1 (by rfl) T.b_range (am_cons (em_blt call_len cm_len (by rfl) T.b_len PySem.boot_len (am_cons (em_var (pv 1)) am_nil)) am_nil)) (blkOk_by (by kernel_rfl)) (fun _ _ _ _ _ => (pg_name (i := 3) sc_law_is_most.nd rfl (by first | exact Or.inl rfl | exact Or.inr rfl))) (fun _ _ _ _ _ => (pts_M (bm_not (bm_truth (em_call (ok_law_leq T) n_law_leq (hr.mono (by decide)) (by rfl) T.g_law_leq T.F_law_leq.kp (bi_law_leq T) .nil (fun _ => .nil) (am_cons (em_var (pv 0)) (am_cons (em_ix ix_seq opm_ix (em_var (pv 1)) (em_var (pv 3)) (fun _ _ => rfl)) (am_cons (em_ix ix_seq opm_ix (em_var (pv 2)) (em_var (pv 3)) (fun _ _ => rfl)) am_nil)))) fun _ => rfl)))) (fun _ _ _ _ _ => (em_var (pv 3)))))) am_nil)) em_int (nomark _))))
theorem ok_law_whether (T : Txt K mg) : FnOk P w K mg base CX0 1 T.a_law_whether T.d_law_whether ["told", "due"] (spM K mg 2 f_law_whether) := fn_mir T.F_law_whether sc_law_whether fun cdv A outer s H E hr =>
    (ss_one (s_ret (em_and (em_isi .bool (by decide) (by rfl) T.b_isinstance (pe_bltn (by rfl) T.b_bool (by decide +kernel) rfl) (em_var (pv 0))) (em_one (em_cmp (op_eqA hr.units) opm_eq (em_var (pv 0)) (em_var (pv 1)) (nomark _))))))
theorem ok_law_pairs_right (T : Txt K mg) : FnOk P w K mg base CX0 4 T.a_law_pairs_right T.d_law_pairs_right ["second", "maps"] (spM K mg 2 f_law_pairs_right) := fn_mir T.F_law_pairs_right sc_law_pairs_right fun cdv A outer s H E hr =>
    (ss_cons (s_pre (vs := [2, 3, 4, 5]) (s_for PassesOwn.never rfl (im_seq (em_var (pv 1))) (pg_name (i := 2) sc_law_pairs_right.nd rfl (by first | exact Or.inl rfl | exact Or.inr rfl)) (tg_one 2) (ss_wip (vs := [2, 3, 4, 5]) (ss_one (s_pre (vs := [3, 4, 5]) (s_for PassesOwn.never rfl (im_seq (em_var (pv 1))) (pg_name (i := 3) sc_law_pairs_right.nd rfl (by first | exact Or.inl rfl | exact Or.inr rfl)) (tg_one 3) (ss_wip (vs := [3, 4, 5]) (ss_cons (s_set (i := 4) sc_law_pairs_right.nd rfl (Or.inl rfl) (em_call (ok_law_is_most T) n_law_is_most (hr.mono (by decide)) (by rfl) T.g_law_is_most T.F_law_is_most.kp (bi_law_is_most T) .nil (fun _ => .nil) (am_cons (em_var (pv 0)) (am_cons (em_var (pv 2)) (am_cons (em_var (pv 3)) am_nil)))))
    (ss_cons (s_set (i := 5) sc_law_pairs_right.nd rfl (Or.inl rfl) (em_or (em_var (pv 4)) (em_one (em_call (ok_law_is_most T) n_law_is_most (hr.mono (by decide)) (by rfl) T.g_law_is_most T.F_law_is_most.kp (bi_law_is_most T) .nil (fun _ => .nil) (am_cons (em_var (pv 0)) (am_cons (em_var (pv 3)) (am_cons (em_var (pv 2)) am_nil)))))))
    (ss_cons (s_if (bm_not (bm_truth (em_call (ok_law_whether T) n_law_whether (hr.mono (by decide)) (by rfl) T.g_law_whether T.F_law_whether.kp (bi_law_whether T) .nil (fun _ => .nil) (am_cons (em_call (ok_at_most T) n_at_most (hr.mono (by decide)) (by rfl) T.g_at_most T.F_at_most.kp (bi_at_most T) .nil (fun _ => .nil) (am_cons (em_dget hr.units (em_var (pv 0)) em_str (fun _ _ => rfl)) (am_cons (em_var (pv 2)) (am_cons (em_var (pv 3)) am_nil)))) (am_cons (em_var (pv 4)) am_nil))) fun _ => rfl)) (ss_one (s_ret em_bl)) ss_nil)
    (ss_cons (s_if (bm_not (bm_truth (em_call (ok_law_whether T) n_law_whether (hr.mono (by decide)) (by rfl) T.g_law_whether T.F_law_whether.kp (bi_law_whether T) .nil (fun _ => .nil) (am_cons (em_callK0 (ok_at_most T) n_at_most (hr.mono (by decide)) (by rfl) T.g_at_most T.F_at_most.kp (kb_at_most_0 T) (fun _ => .nil) (km_cons (em_var (pv 3)) (km_cons (em_var (pv 2)) (km_cons (em_dget hr.units (em_var (pv 0)) em_str (fun _ _ => rfl)) km_nil)))) (am_cons (em_var (pv 4)) am_nil))) fun _ => rfl)) (ss_one (s_ret em_bl)) ss_nil)
    (ss_cons (s_if (bm_not (bm_truth (em_call (ok_law_whether T) n_law_whether (hr.mono (by decide)) (by rfl) T.g_law_whether T.F_law_whether.kp (bi_law_whether T) .nil (fun _ => .nil) (am_cons (em_call (ok_are_neighbours T) n_are_neighbours (hr.mono (by decide)) (by rfl) T.g_are_neighbours T.F_are_neighbours.kp (bi_are_neighbours T) .nil (fun _ => .nil) (am_cons (em_dget hr.units (em_var (pv 0)) em_str (fun _ _ => rfl)) (am_cons (em_var (pv 2)) (am_cons (em_var (pv 3)) am_nil)))) (am_cons (em_var (pv 5)) am_nil))) fun _ => rfl)) (ss_one (s_ret em_bl)) ss_nil)
    (ss_one (s_if (bm_not (bm_truth (em_call (ok_law_whether T) n_law_whether (hr.mono (by decide)) (by rfl) T.g_law_whether T.F_law_whether.kp (bi_law_whether T) .nil (fun _ => .nil) (am_cons (em_callK0 (ok_are_neighbours T) n_are_neighbours (hr.mono (by decide)) (by rfl) T.g_are_neighbours T.F_are_neighbours.kp (kb_are_neighbours_0 T) (fun _ => .nil) (km_cons (em_var (pv 2)) (km_cons (em_var (pv 3)) (km_cons (em_dget hr.units (em_var (pv 0)) em_str (fun _ _ => rfl)) km_nil)))) (am_cons (em_var (pv 5)) am_nil))) fun _ => rfl)) (ss_one (s_ret em_bl)) ss_nil))))))))))))))
    (ss_one (s_ret em_bl)))
theorem ok_law (T : Txt K mg) : FnOk P w K mg base CX0 11 T.a_law T.d_law ["script"] (spM K mg 1 f_law) := fn_mir T.F_law sc_law fun cdv A outer s H E hr =>
    (ss_cons (s_set (i := 1) sc_law.nd rfl (Or.inr rfl) (em_call (ok_law_pool T) n_law_pool (hr.mono (by decide)) (by rfl) T.g_law_pool T.F_law_pool.kp (bi_law_pool T) .nil (fun _ => .nil) (am_cons (em_var (pv 0)) am_nil)))
    (ss_cons (s_set (i := 2) sc_law.nd rfl (Or.inr rfl) (em_fls (lm_lc (tc_one (by decide)) (pe_lc (own := [("size", 3)]) rfl sc_law.nd (im_seq (em_call (ok_law_sizes T) n_law_sizes (hr.mono (by decide)) (by rfl) T.g_law_sizes T.F_law_sizes.kp (bi_law_sizes T) .nil (fun _ => .nil) (am_cons (em_var (pv 1)) am_nil))) (blkOk_by (by kernel_rfl)) (fun _ _ _ _ _ => (pg_name (i := 3) sc_law.nd rfl (by first | exact Or.inl rfl | exact Or.inr rfl))) (fun _ _ _ _ _ => pts_y) (fun _ _ _ _ _ => (em_call (ok_law_drawn T) n_law_drawn (hr.mono (by decide)) (by rfl) T.g_law_drawn T.F_law_drawn.kp (bi_law_drawn T) .nil (fun _ => .nil) (am_cons (em_var (pv 1)) (am_cons (em_var (pv 3)) am_nil))))))))
    (ss_cons (s_lcF (tc_one (by decide)) (ps_setLc (i := 4) (own := [("k", 5)]) rfl sc_law.nd rfl rfl (sw_true rfl rfl rfl (by decide +kernel)) (im_rng1 (by rfl) T.b_range (am_cons em_int am_nil)) (blkOk_by (by kernel_rfl)) (fun _ _ _ _ _ => (pg_name (i := 5) sc_law.nd rfl (by first | exact Or.inl rfl | exact Or.inr rfl))) (fun _ _ _ _ _ => pts_y) (fun _ _ _ _ _ => (em_call (ok_law_map T) n_law_map (hr.mono (by decide)) (by rfl) T.g_law_map T.F_law_map.kp (bi_law_map T) .nil (fun _ => .nil) (am_cons (em_var (pv 1)) (am_cons (em_ix ix_seq opm_ix (em_var (pv 2)) (em_var (pv 5)) (fun _ _ => rfl)) (am_cons (em_ix ix_seq opm_ix (em_var (pv 2)) (em_op op_addA opm_add (em_var (pv 5)) em_int) (fun _ _ => rfl)) am_nil)))))))
    (ss_cons (s_if (bm_w (wm_or (bm_not (bm_truth (em_call (ok_law_composes_right T) n_law_composes_right (hr.mono (by decide)) (by rfl) T.g_law_composes_right T.F_law_composes_right.kp (bi_law_composes_right T) .nil (fun _ => .nil) (am_cons (em_var (pv 2)) (am_cons (em_var (pv 4)) am_nil))) fun _ => rfl)) (wm_or1 (bm_not (bm_truth (em_call (ok_law_turns_right T) n_law_turns_right (hr.mono (by decide)) (by rfl) T.g_law_turns_right T.F_law_turns_right.kp (bi_law_turns_right T) .nil (fun _ => .nil) (am_cons (em_var (pv 1)) (am_cons (em_ix ix_seq opm_ix (em_var (pv 2)) em_int (fun _ _ => rfl)) am_nil))) fun _ => rfl))))) (ss_one (s_ret em_bl)) ss_nil)
    (ss_cons (s_set (i := 5) sc_law.nd rfl (Or.inl rfl) (em_call (ok_law_take T) n_law_take (hr.mono (by decide)) (by rfl) T.g_law_take T.F_law_take.kp (bi_law_take T) .nil (fun _ => .nil) (am_cons (em_var (pv 1)) (am_cons em_int am_nil))))
    (ss_cons (s_set (i := 6) sc_law.nd rfl (Or.inl rfl) (em_ix ix_seq opm_ix (em_var (pv 2)) (em_var (pv 5)) (fun _ _ => rfl)))
    (ss_cons (s_set (i := 7) sc_law.nd rfl (Or.inl rfl) (em_ix ix_seq opm_ix (em_var (pv 2)) (em_op op_addA opm_add (em_var (pv 5)) em_int) (fun _ _ => rfl)))
    (ss_cons (s_set (i := 8) sc_law.nd rfl (Or.inl rfl) (em_call (ok_law_moved T) n_law_moved (hr.mono (by decide)) (by rfl) T.g_law_moved T.F_law_moved.kp (bi_law_moved T) .nil (fun _ => .nil) (am_cons (em_var (pv 1)) (am_cons (em_var (pv 6)) (am_cons (em_var (pv 7)) (am_cons (em_ix ix_seq opm_ix (em_var (pv 4)) (em_var (pv 5)) (fun _ _ => rfl)) (am_cons em_bl am_nil)))))))
    (ss_cons (s_set (i := 9) sc_law.nd rfl (Or.inl rfl) (em_call (ok_law_moved T) n_law_moved (hr.mono (by decide)) (by rfl) T.g_law_moved T.F_law_moved.kp (bi_law_moved T) .nil (fun _ => .nil) (am_cons (em_var (pv 1)) (am_cons (em_var (pv 6)) (am_cons (em_var (pv 7)) (am_cons (em_ix ix_seq opm_ix (em_var (pv 4)) (em_var (pv 5)) (fun _ _ => rfl)) (am_cons em_bl am_nil)))))))
    (ss_cons (s_set (i := 10) sc_law.nd rfl (Or.inl rfl) (em_call (ok_law_moved T) n_law_moved (hr.mono (by decide)) (by rfl) T.g_law_moved T.F_law_moved.kp (bi_law_moved T) .nil (fun _ => .nil) (am_cons (em_var (pv 1)) (am_cons (em_var (pv 6)) (am_cons (em_var (pv 7)) (am_cons (em_var (pv 8)) (am_cons em_bl am_nil)))))))
    (ss_one (s_ret (em_call (ok_law_pairs_right T) n_law_pairs_right (hr.mono (by decide)) (by rfl) T.g_law_pairs_right T.F_law_pairs_right.kp (bi_law_pairs_right T) .nil (fun _ => .nil) (am_cons (em_var (pv 7)) (am_cons (em_fls (lm_lst (am_cons (em_ix ix_seq opm_ix (em_var (pv 4)) (em_var (pv 5)) (fun _ _ => rfl)) (am_cons (em_var (pv 8)) (am_cons (em_var (pv 9)) (am_cons (em_var (pv 10)) (am_cons (em_call (ok_law_map T) n_law_map (hr.mono (by decide)) (by rfl) T.g_law_map T.F_law_map.kp (bi_law_map T) .nil (fun _ => .nil) (am_cons (em_var (pv 1)) (am_cons (em_var (pv 6)) (am_cons (em_var (pv 7)) am_nil)))) am_nil))))))) am_nil)))))))))))))))
end
end Mi.k10
set_option maxHeartbeats 8000000
namespace Mi.k10
open PySem L2
theorem txt_mk {K : PySem.W.Frag} {h : Heap} {mg : Str → Option Value} {fa : Addr} (X : K.In h) (G : h.Ns mainGlobals mg) (hfa : mg "law" = some (.ref fa)) {f0 : Addr} {od0 an0 : Option Addr} {sl0 : Array (Option Value)} {oc0 kV0 dc0 pm0 cd0 ct0 : Value} {f1 : Addr} {od1 an1 : Option Addr} {sl1 : Array (Option Value)} {oc1 kV1 dc1 pm1 cd1 ct1 : Value} {f2 : Addr} {od2 an2 : Option Addr} {sl2 : Array (Option Value)} {oc2 kV2 dc2 pm2 cd2 ct2 : Value} {f3 : Addr} {od3 an3 : Option Addr} {sl3 : Array (Option Value)} {oc3 kV3 dc3 pm3 cd3 ct3 : Value} {f4 : Addr} {od4 an4 : Option Addr} {sl4 : Array (Option Value)} {oc4 kV4 dc4 pm4 cd4 ct4 : Value} {f5 : Addr} {od5 an5 : Option Addr} {sl5 : Array (Option Value)} {oc5 kV5 dc5 pm5 cd5 ct5 : Value} {f6 : Addr} {od6 an6 : Option Addr} {sl6 : Array (Option Value)} {oc6 kV6 dc6 pm6 cd6 ct6 : Value} {f7 : Addr} {od7 an7 : Option Addr} {sl7 : Array (Option Value)} {oc7 kV7 dc7 pm7 cd7 ct7 : Value} {f8 : Addr} {od8 an8 : Option Addr} {sl8 : Array (Option Value)} {oc8 kV8 dc8 pm8 cd8 ct8 : Value} {f9 : Addr} {od9 an9 : Option Addr} {sl9 : Array (Option Value)} {oc9 kV9 dc9 pm9 cd9 ct9 : Value} {f10 : Addr} {od10 an10 : Option Addr} {sl10 : Array (Option Value)} {oc10 kV10 dc10 pm10 cd10 ct10 : Value} {f11 : Addr} {od11 an11 : Option Addr} {sl11 : Array (Option Value)} {oc11 kV11 dc11 pm11 cd11 ct11 : Value} {f12 : Addr} {od12 an12 : Option Addr} {sl12 : Array (Option Value)} {oc12 kV12 dc12 pm12 cd12 ct12 : Value} {f13 : Addr} {od13 an13 : Option Addr} {sl13 : Array (Option Value)} {oc13 kV13 dc13 pm13 cd13 ct13 : Value} {f14 : Addr} {od14 an14 : Option Addr} {sl14 : Array (Option Value)} {oc14 kV14 dc14 pm14 cd14 ct14 : Value} {f15 : Addr} {od15 an15 : Option Addr} {sl15 : Array (Option Value)} {oc15 kV15 dc15 pm15 cd15 ct15 : Value} {f16 : Addr} {od16 an16 : Option Addr} {sl16 : Array (Option Value)} {oc16 kV16 dc16 pm16 cd16 ct16 : Value} {f17 : Addr} {od17 an17 : Option Addr} {sl17 : Array (Option Value)} {oc17 kV17 dc17 pm17 cd17 ct17 : Value} {f18 : Addr} {od18 an18 : Option Addr} {sl18 : Array (Option Value)} {oc18 kV18 dc18 pm18 cd18 ct18 : Value} {f19 : Addr} {od19 an19 : Option Addr} {sl19 : Array (Option Value)} {oc19 kV19 dc19 pm19 cd19 ct19 : Value} {f20 : Addr} {od20 an20 : Option Addr} {sl20 : Array (Option Value)} {oc20 kV20 dc20 pm20 cd20 ct20 : Value} {f21 : Addr} {od21 an21 : Option Addr} {sl21 : Array (Option Value)} {oc21 kV21 dc21 pm21 cd21 ct21 : Value} {f22 : Addr} {od22 an22 : Option Addr} {sl22 : Array (Option Value)} {oc22 kV22 dc22 pm22 cd22 ct22 : Value} {f23 : Addr} {od23 an23 : Option Addr} {sl23 : Array (Option Value)} {oc23 kV23 dc23 pm23 cd23 ct23 : Value} {f24 : Addr} {od24 an24 : Option Addr} {sl24 : Array (Option Value)} {oc24 kV24 dc24 pm24 cd24 ct24 : Value} {f25 : Addr} {od25 an25 : Option Addr} {sl25 : Array (Option Value)} {oc25 kV25 dc25 pm25 cd25 ct25 : Value}
    (a0 : PySem.W.nsIn K mainGlobals "_law_pool" = some (some (.ref f0)))
    (l0 : K.lookup f0 = some ⟨oc0, od0, .func (PySem.W.fnOf "_law_pool" "_law_pool" (defArgs s_law_pool) (defBody s_law_pool) (defScope s_law_pool) .none kV0 dc0 pm0 an0 cd0 ct0), sl0⟩)
    (c0 : PySem.W.codeIn K cd0 "_law_pool" = true)
    (k0 : PySem.W.keepIn K (.ref f0) = true)
    (a1 : PySem.W.nsIn K mainGlobals "_law_mixed" = some (some (.ref f1)))
    (l1 : K.lookup f1 = some ⟨oc1, od1, .func (PySem.W.fnOf "_law_mixed" "_law_mixed" (defArgs s_law_mixed) (defBody s_law_mixed) (defScope s_law_mixed) .none kV1 dc1 pm1 an1 cd1 ct1), sl1⟩)
    (c1 : PySem.W.codeIn K cd1 "_law_mixed" = true)
    (k1 : PySem.W.keepIn K (.ref f1) = true)
    (a2 : PySem.W.nsIn K mainGlobals "_law_take" = some (some (.ref f2)))
    (l2 : K.lookup f2 = some ⟨oc2, od2, .func (PySem.W.fnOf "_law_take" "_law_take" (defArgs s_law_take) (defBody s_law_take) (defScope s_law_take) .none kV2 dc2 pm2 an2 cd2 ct2), sl2⟩)
    (c2 : PySem.W.codeIn K cd2 "_law_take" = true)
    (k2 : PySem.W.keepIn K (.ref f2) = true)
    (a3 : PySem.W.nsIn K mainGlobals "_law_names" = some (some (.ref f3)))
    (l3 : K.lookup f3 = some ⟨oc3, od3, .func (PySem.W.fnOf "_law_names" "_law_names" (defArgs s_law_names) (defBody s_law_names) (defScope s_law_names) .none kV3 dc3 pm3 an3 cd3 ct3), sl3⟩)
    (c3 : PySem.W.codeIn K cd3 "_law_names" = true)
    (k3 : PySem.W.keepIn K (.ref f3) = true)
    (a4 : PySem.W.nsIn K mainGlobals "_law_space" = some (some (.ref f4)))
    (l4 : K.lookup f4 = some ⟨oc4, od4, .func (PySem.W.fnOf "_law_space" "_law_space" (defArgs s_law_space) (defBody s_law_space) (defScope s_law_space) .none kV4 dc4 pm4 an4 cd4 ct4), sl4⟩)
    (c4 : PySem.W.codeIn K cd4 "_law_space" = true)
    (k4 : PySem.W.keepIn K (.ref f4) = true)
    (a5 : PySem.W.nsIn K mainGlobals "_law_floors" = some (some (.ref f5)))
    (l5 : K.lookup f5 = some ⟨oc5, od5, .func (PySem.W.fnOf "_law_floors" "_law_floors" (defArgs s_law_floors) (defBody s_law_floors) (defScope s_law_floors) .none kV5 dc5 pm5 an5 cd5 ct5), sl5⟩)
    (c5 : PySem.W.codeIn K cd5 "_law_floors" = true)
    (k5 : PySem.W.keepIn K (.ref f5) = true)
    (a6 : PySem.W.nsIn K mainGlobals "_law_drawn" = some (some (.ref f6)))
    (l6 : K.lookup f6 = some ⟨oc6, od6, .func (PySem.W.fnOf "_law_drawn" "_law_drawn" (defArgs s_law_drawn) (defBody s_law_drawn) (defScope s_law_drawn) .none kV6 dc6 pm6 an6 cd6 ct6), sl6⟩)
    (c6 : PySem.W.codeIn K cd6 "_law_drawn" = true)
    (k6 : PySem.W.keepIn K (.ref f6) = true)
    (a7 : PySem.W.nsIn K mainGlobals "_law_leq" = some (some (.ref f7)))
    (l7 : K.lookup f7 = some ⟨oc7, od7, .func (PySem.W.fnOf "_law_leq" "_law_leq" (defArgs s_law_leq) (defBody s_law_leq) (defScope s_law_leq) .none kV7 dc7 pm7 an7 cd7 ct7), sl7⟩)
    (c7 : PySem.W.codeIn K cd7 "_law_leq" = true)
    (k7 : PySem.W.keepIn K (.ref f7) = true)
    (a8 : PySem.W.nsIn K mainGlobals "_law_bounds" = some (some (.ref f8)))
    (l8 : K.lookup f8 = some ⟨oc8, od8, .func (PySem.W.fnOf "_law_bounds" "_law_bounds" (defArgs s_law_bounds) (defBody s_law_bounds) (defScope s_law_bounds) .none kV8 dc8 pm8 an8 cd8 ct8), sl8⟩)
    (c8 : PySem.W.codeIn K cd8 "_law_bounds" = true)
    (k8 : PySem.W.keepIn K (.ref f8) = true)
    (a9 : PySem.W.nsIn K mainGlobals "_law_map" = some (some (.ref f9)))
    (l9 : K.lookup f9 = some ⟨oc9, od9, .func (PySem.W.fnOf "_law_map" "_law_map" (defArgs s_law_map) (defBody s_law_map) (defScope s_law_map) .none kV9 dc9 pm9 an9 cd9 ct9), sl9⟩)
    (c9 : PySem.W.codeIn K cd9 "_law_map" = true)
    (k9 : PySem.W.keepIn K (.ref f9) = true)
    (a10 : PySem.W.nsIn K mainGlobals "_law_rises" = some (some (.ref f10)))
    (l10 : K.lookup f10 = some ⟨oc10, od10, .func (PySem.W.fnOf "_law_rises" "_law_rises" (defArgs s_law_rises) (defBody s_law_rises) (defScope s_law_rises) .none kV10 dc10 pm10 an10 cd10 ct10), sl10⟩)
    (c10 : PySem.W.codeIn K cd10 "_law_rises" = true)
    (k10 : PySem.W.keepIn K (.ref f10) = true)
    (a11 : PySem.W.nsIn K mainGlobals "_law_moved" = some (some (.ref f11)))
    (l11 : K.lookup f11 = some ⟨oc11, od11, .func (PySem.W.fnOf "_law_moved" "_law_moved" (defArgs s_law_moved) (defBody s_law_moved) (defScope s_law_moved) .none kV11 dc11 pm11 an11 cd11 ct11), sl11⟩)
    (c11 : PySem.W.codeIn K cd11 "_law_moved" = true)
    (k11 : PySem.W.keepIn K (.ref f11) = true)
    (a12 : PySem.W.nsIn K mainGlobals "_law_sizes" = some (some (.ref f12)))
    (l12 : K.lookup f12 = some ⟨oc12, od12, .func (PySem.W.fnOf "_law_sizes" "_law_sizes" (defArgs s_law_sizes) (defBody s_law_sizes) (defScope s_law_sizes) .none kV12 dc12 pm12 an12 cd12 ct12), sl12⟩)
    (c12 : PySem.W.codeIn K cd12 "_law_sizes" = true)
    (k12 : PySem.W.keepIn K (.ref f12) = true)
    (a13 : PySem.W.nsIn K mainGlobals "identity_map" = some (some (.ref f13)))
    (l13 : K.lookup f13 = some ⟨oc13, od13, .func (PySem.W.fnOf "identity_map" "identity_map" (defArgs s_identity_map) (defBody s_identity_map) (defScope s_identity_map) .none kV13 dc13 pm13 an13 cd13 ct13), sl13⟩)
    (c13 : PySem.W.codeIn K cd13 "identity_map" = true)
    (k13 : PySem.W.keepIn K (.ref f13) = true)
    (a14 : PySem.W.nsIn K mainGlobals "compose" = some (some (.ref f14)))
    (l14 : K.lookup f14 = some ⟨oc14, od14, .func (PySem.W.fnOf "compose" "compose" (defArgs s_compose) (defBody s_compose) (defScope s_compose) .none kV14 dc14 pm14 an14 cd14 ct14), sl14⟩)
    (c14 : PySem.W.codeIn K cd14 "compose" = true)
    (k14 : PySem.W.keepIn K (.ref f14) = true)
    (a15 : PySem.W.nsIn K mainGlobals "_law_same" = some (some (.ref f15)))
    (l15 : K.lookup f15 = some ⟨oc15, od15, .func (PySem.W.fnOf "_law_same" "_law_same" (defArgs s_law_same) (defBody s_law_same) (defScope s_law_same) .none kV15 dc15 pm15 an15 cd15 ct15), sl15⟩)
    (c15 : PySem.W.codeIn K cd15 "_law_same" = true)
    (k15 : PySem.W.keepIn K (.ref f15) = true)
    (a16 : PySem.W.nsIn K mainGlobals "_law_composed" = some (some (.ref f16)))
    (l16 : K.lookup f16 = some ⟨oc16, od16, .func (PySem.W.fnOf "_law_composed" "_law_composed" (defArgs s_law_composed) (defBody s_law_composed) (defScope s_law_composed) .none kV16 dc16 pm16 an16 cd16 ct16), sl16⟩)
    (c16 : PySem.W.codeIn K cd16 "_law_composed" = true)
    (k16 : PySem.W.keepIn K (.ref f16) = true)
    (a17 : PySem.W.nsIn K mainGlobals "_law_composes_right" = some (some (.ref f17)))
    (l17 : K.lookup f17 = some ⟨oc17, od17, .func (PySem.W.fnOf "_law_composes_right" "_law_composes_right" (defArgs s_law_composes_right) (defBody s_law_composes_right) (defScope s_law_composes_right) .none kV17 dc17 pm17 an17 cd17 ct17), sl17⟩)
    (c17 : PySem.W.codeIn K cd17 "_law_composes_right" = true)
    (k17 : PySem.W.keepIn K (.ref f17) = true)
    (a18 : PySem.W.nsIn K mainGlobals "_law_turns_right" = some (some (.ref f18)))
    (l18 : K.lookup f18 = some ⟨oc18, od18, .func (PySem.W.fnOf "_law_turns_right" "_law_turns_right" (defArgs s_law_turns_right) (defBody s_law_turns_right) (defScope s_law_turns_right) .none kV18 dc18 pm18 an18 cd18 ct18), sl18⟩)
    (c18 : PySem.W.codeIn K cd18 "_law_turns_right" = true)
    (k18 : PySem.W.keepIn K (.ref f18) = true)
    (a19 : PySem.W.nsIn K mainGlobals "is_below" = some (some (.ref f19)))
    (l19 : K.lookup f19 = some ⟨oc19, od19, .func (PySem.W.fnOf "is_below" "is_below" (defArgs s_is_below) (defBody s_is_below) (defScope s_is_below) .none kV19 dc19 pm19 an19 cd19 ct19), sl19⟩)
    (c19 : PySem.W.codeIn K cd19 "is_below" = true)
    (k19 : PySem.W.keepIn K (.ref f19) = true)
    (a20 : PySem.W.nsIn K mainGlobals "at_most" = some (some (.ref f20)))
    (l20 : K.lookup f20 = some ⟨oc20, od20, .func (PySem.W.fnOf "at_most" "at_most" (defArgs s_at_most) (defBody s_at_most) (defScope s_at_most) .none kV20 dc20 pm20 an20 cd20 ct20), sl20⟩)
    (c20 : PySem.W.codeIn K cd20 "at_most" = true)
    (k20 : PySem.W.keepIn K (.ref f20) = true)
    (a21 : PySem.W.nsIn K mainGlobals "are_neighbours" = some (some (.ref f21)))
    (l21 : K.lookup f21 = some ⟨oc21, od21, .func (PySem.W.fnOf "are_neighbours" "are_neighbours" (defArgs s_are_neighbours) (defBody s_are_neighbours) (defScope s_are_neighbours) .none kV21 dc21 pm21 an21 cd21 ct21), sl21⟩)
    (c21 : PySem.W.codeIn K cd21 "are_neighbours" = true)
    (k21 : PySem.W.keepIn K (.ref f21) = true)
    (a22 : PySem.W.nsIn K mainGlobals "_law_is_most" = some (some (.ref f22)))
    (l22 : K.lookup f22 = some ⟨oc22, od22, .func (PySem.W.fnOf "_law_is_most" "_law_is_most" (defArgs s_law_is_most) (defBody s_law_is_most) (defScope s_law_is_most) .none kV22 dc22 pm22 an22 cd22 ct22), sl22⟩)
    (c22 : PySem.W.codeIn K cd22 "_law_is_most" = true)
    (k22 : PySem.W.keepIn K (.ref f22) = true)
    (a23 : PySem.W.nsIn K mainGlobals "_law_whether" = some (some (.ref f23)))
    (l23 : K.lookup f23 = some ⟨oc23, od23, .func (PySem.W.fnOf "_law_whether" "_law_whether" (defArgs s_law_whether) (defBody s_law_whether) (defScope s_law_whether) .none kV23 dc23 pm23 an23 cd23 ct23), sl23⟩)
    (c23 : PySem.W.codeIn K cd23 "_law_whether" = true)
    (k23 : PySem.W.keepIn K (.ref f23) = true)
    (a24 : PySem.W.nsIn K mainGlobals "_law_pairs_right" = some (some (.ref f24)))
    (l24 : K.lookup f24 = some ⟨oc24, od24, .func (PySem.W.fnOf "_law_pairs_right" "_law_pairs_right" (defArgs s_law_pairs_right) (defBody s_law_pairs_right) (defScope s_law_pairs_right) .none kV24 dc24 pm24 an24 cd24 ct24), sl24⟩)
    (c24 : PySem.W.codeIn K cd24 "_law_pairs_right" = true)
    (k24 : PySem.W.keepIn K (.ref f24) = true)
    (a25 : PySem.W.nsIn K mainGlobals "law" = some (some (.ref f25)))
    (l25 : K.lookup f25 = some ⟨oc25, od25, .func (PySem.W.fnOf "law" "law" (defArgs s_law) (defBody s_law) (defScope s_law) .none kV25 dc25 pm25 an25 cd25 ct25), sl25⟩)
    (c25 : PySem.W.codeIn K cd25 "law" = true)
    (k25 : PySem.W.keepIn K (.ref f25) = true)
    (z_abs : PySem.W.nsIn K mainGlobals "abs" = some none)
    (z_bool : PySem.W.nsIn K mainGlobals "bool" = some none)
    (z_enumerate : PySem.W.nsIn K mainGlobals "enumerate" = some none)
    (z_int : PySem.W.nsIn K mainGlobals "int" = some none)
    (z_isinstance : PySem.W.nsIn K mainGlobals "isinstance" = some none)
    (z_len : PySem.W.nsIn K mainGlobals "len" = some none)
    (z_list : PySem.W.nsIn K mainGlobals "list" = some none)
    (z_range : PySem.W.nsIn K mainGlobals "range" = some none)
    (z_str : PySem.W.nsIn K mainGlobals "str" = some none)
    (z_tuple : PySem.W.nsIn K mainGlobals "tuple" = some none) :
    ∃ T : Txt K mg, T.a_law = fa := by
  have e := hfa.symm.trans (PySem.W.mg_of X G a25)
  cases e
  exact ⟨⟨f0,
    _,
    fun_mk (st := s_law_pool) l0 c0 k0,
    PySem.W.mg_of X G a0,
    f1,
    _,
    fun_mk (st := s_law_mixed) l1 c1 k1,
    PySem.W.mg_of X G a1,
    f2,
    _,
    fun_mk (st := s_law_take) l2 c2 k2,
    PySem.W.mg_of X G a2,
    f3,
    _,
    fun_mk (st := s_law_names) l3 c3 k3,
    PySem.W.mg_of X G a3,
    f4,
    _,
    fun_mk (st := s_law_space) l4 c4 k4,
    PySem.W.mg_of X G a4,
    f5,
    _,
    fun_mk (st := s_law_floors) l5 c5 k5,
    PySem.W.mg_of X G a5,
    f6,
    _,
    fun_mk (st := s_law_drawn) l6 c6 k6,
    PySem.W.mg_of X G a6,
    f7,
    _,
    fun_mk (st := s_law_leq) l7 c7 k7,
    PySem.W.mg_of X G a7,
    f8,
    _,
    fun_mk (st := s_law_bounds) l8 c8 k8,
    PySem.W.mg_of X G a8,
    f9,
    _,
    fun_mk (st := s_law_map) l9 c9 k9,
    PySem.W.mg_of X G a9,
    f10,
    _,
    fun_mk (st := s_law_rises) l10 c10 k10,
    PySem.W.mg_of X G a10,
    f11,
    _,
    fun_mk (st := s_law_moved) l11 c11 k11,
    PySem.W.mg_of X G a11,
    f12,
    _,
    fun_mk (st := s_law_sizes) l12 c12 k12,
    PySem.W.mg_of X G a12,
    f13,
    _,
    fun_mk (st := s_identity_map) l13 c13 k13,
    PySem.W.mg_of X G a13,
    f14,
    _,
    fun_mk (st := s_compose) l14 c14 k14,
    PySem.W.mg_of X G a14,
    f15,
    _,
    fun_mk (st := s_law_same) l15 c15 k15,
    PySem.W.mg_of X G a15,
    f16,
    _,
    fun_mk (st := s_law_composed) l16 c16 k16,
    PySem.W.mg_of X G a16,
    f17,
    _,
    fun_mk (st := s_law_composes_right) l17 c17 k17,
    PySem.W.mg_of X G a17,
    f18,
    _,
    fun_mk (st := s_law_turns_right) l18 c18 k18,
    PySem.W.mg_of X G a18,
    f19,
    _,
    fun_mk (st := s_is_below) l19 c19 k19,
    PySem.W.mg_of X G a19,
    f20,
    _,
    fun_mk (st := s_at_most) l20 c20 k20,
    PySem.W.mg_of X G a20,
    f21,
    _,
    fun_mk (st := s_are_neighbours) l21 c21 k21,
    PySem.W.mg_of X G a21,
    f22,
    _,
    fun_mk (st := s_law_is_most) l22 c22 k22,
    PySem.W.mg_of X G a22,
    f23,
    _,
    fun_mk (st := s_law_whether) l23 c23 k23,
    PySem.W.mg_of X G a23,
    f24,
    _,
    fun_mk (st := s_law_pairs_right) l24 c24 k24,
    PySem.W.mg_of X G a24,
    fa,
    _,
    fun_mk (st := s_law) l25 c25 k25,
    PySem.W.mg_of X G a25,
    PySem.W.mg_none_of X G z_abs,
    PySem.W.mg_none_of X G z_bool,
    PySem.W.mg_none_of X G z_enumerate,
    PySem.W.mg_none_of X G z_int,
    PySem.W.mg_none_of X G z_isinstance,
    PySem.W.mg_none_of X G z_len,
    PySem.W.mg_none_of X G z_list,
    PySem.W.mg_none_of X G z_range,
    PySem.W.mg_none_of X G z_str,
    PySem.W.mg_none_of X G z_tuple⟩, rfl⟩
abbrev Law : Prop := ∀ ns : List Int, ns.length ≤ 63 → ∃ h, f_law [.frz (ns.map MV.int)] [] = ok (.bl true) h
theorem all_end {l : PySem.W.OpenLaw} {w : World} {K : PySem.W.Frag} {mg : Str → Option Value} {fa : Addr} (L : Law) (hT : ∃ T : Txt K mg, T.a_law = fa) :
    ∃ fd : FuncData, (∀ (s : Shared) (v : Value), BindsTo s fd ⟨[v], []⟩ [("script", v)]) ∧ ∀ base : Heap, K.In base → base.Ns mainGlobals mg → FnOk l.prog w K mg base CX0 11 fa fd ["script"] (spLaw K) := by
  obtain ⟨T, e⟩ := hT
  subst e
  obtain ⟨oc, od, kV, doc, pm, an, cdv, ct, osl, e, lk, hcd⟩ := T.F_law.ex
  refine ⟨T.d_law, fun s v => ?_, fun base _ _ => (ok_law T).imp (law_start L)⟩
  rw [e]
  exact .of_eq rfl
end Mi.k10
open PySem PySem.W PyProof.Rows
set_option maxRecDepth 100000 in
set_option maxHeartbeats 0 in
theorem PySem.Challenge.cw_strikecore_k10_maps_composed_and_compare_holds : PySem.Challenge.rw_strikecore_k10_maps_composed_and_compare.Holds := by
  w_on; o_law; k_head; (case hw => w_witness2)
  k_fill
  refine L2.walk_ofK (l := PySem.Challenge.rw_strikecore_k10_maps_composed_and_compare) (n := 63) (k := 11) (x := "script") (CX := L2.CX0) (sp := Mi.spLaw) rfl (by decide) rfl ⟨rfl, by decide, by decide⟩ (fun w h Y => PySem.W.kIn_of Y) ?F (fun K H a ns hl _ hS => ⟨a, ns, rfl, hS, hl, fun _ => rfl⟩) (fun _ _ _ _ h => h)
  case F =>
    intro w mg fa h KX G hmg
    refine Mi.k10.all_end Mi.k10.main ?T
    refine' Mi.k10.txt_mk KX G hmg ?a0 ?l0 ?c0 ?k0 ?a1 ?l1 ?c1 ?k1 ?a2 ?l2 ?c2 ?k2 ?a3 ?l3 ?c3 ?k3 ?a4 ?l4 ?c4 ?k4 ?a5 ?l5 ?c5 ?k5 ?a6 ?l6 ?c6 ?k6 ?a7 ?l7 ?c7 ?k7 ?a8 ?l8 ?c8 ?k8 ?a9 ?l9 ?c9 ?k9 ?a10 ?l10 ?c10 ?k10 ?a11 ?l11 ?c11 ?k11 ?a12 ?l12 ?c12 ?k12 ?a13 ?l13 ?c13 ?k13 ?a14 ?l14 ?c14 ?k14 ?a15 ?l15 ?c15 ?k15 ?a16 ?l16 ?c16 ?k16 ?a17 ?l17 ?c17 ?k17 ?a18 ?l18 ?c18 ?k18 ?a19 ?l19 ?c19 ?k19 ?a20 ?l20 ?c20 ?k20 ?a21 ?l21 ?c21 ?k21 ?a22 ?l22 ?c22 ?k22 ?a23 ?l23 ?c23 ?k23 ?a24 ?l24 ?c24 ?k24 ?a25 ?l25 ?c25 ?k25 ?z_abs ?z_bool ?z_enumerate ?z_int ?z_isinstance ?z_len ?z_list ?z_range ?z_str ?z_tuple
    (case a0 => k_is)
    (case l0 => k_is)
    (case c0 => k_is)
    (case k0 => k_is)
    (case a1 => k_is)
    (case l1 => k_is)
    (case c1 => k_is)
    (case k1 => k_is)
    (case a2 => k_is)
    (case l2 => k_is)
    (case c2 => k_is)
    (case k2 => k_is)
    (case a3 => k_is)
    (case l3 => k_is)
    (case c3 => k_is)
    (case k3 => k_is)
    (case a4 => k_is)
    (case l4 => k_is)
    (case c4 => k_is)
    (case k4 => k_is)
    (case a5 => k_is)
    (case l5 => k_is)
    (case c5 => k_is)
    (case k5 => k_is)
    (case a6 => k_is)
    (case l6 => k_is)
    (case c6 => k_is)
    (case k6 => k_is)
    (case a7 => k_is)
    (case l7 => k_is)
    (case c7 => k_is)
    (case k7 => k_is)
    (case a8 => k_is)
    (case l8 => k_is)
    (case c8 => k_is)
    (case k8 => k_is)
    (case a9 => k_is)
    (case l9 => k_is)
    (case c9 => k_is)
    (case k9 => k_is)
    (case a10 => k_is)
    (case l10 => k_is)
    (case c10 => k_is)
    (case k10 => k_is)
    (case a11 => k_is)
    (case l11 => k_is)
    (case c11 => k_is)
    (case k11 => k_is)
    (case a12 => k_is)
    (case l12 => k_is)
    (case c12 => k_is)
    (case k12 => k_is)
    (case a13 => k_is)
    (case l13 => k_is)
    (case c13 => k_is)
    (case k13 => k_is)
    (case a14 => k_is)
    (case l14 => k_is)
    (case c14 => k_is)
    (case k14 => k_is)
    (case a15 => k_is)
    (case l15 => k_is)
    (case c15 => k_is)
    (case k15 => k_is)
    (case a16 => k_is)
    (case l16 => k_is)
    (case c16 => k_is)
    (case k16 => k_is)
    (case a17 => k_is)
    (case l17 => k_is)
    (case c17 => k_is)
    (case k17 => k_is)
    (case a18 => k_is)
    (case l18 => k_is)
    (case c18 => k_is)
    (case k18 => k_is)
    (case a19 => k_is)
    (case l19 => k_is)
    (case c19 => k_is)
    (case k19 => k_is)
    (case a20 => k_is)
    (case l20 => k_is)
    (case c20 => k_is)
    (case k20 => k_is)
    (case a21 => k_is)
    (case l21 => k_is)
    (case c21 => k_is)
    (case k21 => k_is)
    (case a22 => k_is)
    (case l22 => k_is)
    (case c22 => k_is)
    (case k22 => k_is)
    (case a23 => k_is)
    (case l23 => k_is)
    (case c23 => k_is)
    (case k23 => k_is)
    (case a24 => k_is)
    (case l24 => k_is)
    (case c24 => k_is)
    (case k24 => k_is)
    (case a25 => k_is)
    (case l25 => k_is)
    (case c25 => k_is)
    (case k25 => k_is)
    (case z_abs => k_is)
    (case z_bool => k_is)
    (case z_enumerate => k_is)
    (case z_int => k_is)
    (case z_isinstance => k_is)
    (case z_len => k_is)
    (case z_list => k_is)
    (case z_range => k_is)
    (case z_str => k_is)
    (case z_tuple => k_is)
