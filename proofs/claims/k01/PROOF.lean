import PyProof.Rows.All
import Wide.All
import OpenK.AllK
import Wide.FinOn
import HandS.ForMost
import HandS.ForExc
import HandS.ExcInit
import HandS.ExcField
import HandS.Lambda
import HandS.Gcd
import HandS.Wide
import HandS.IsInst
import HandS.Walk
import HandS.Defaults
import HandS.TupLe
import HandS.MakeKwOnly
import HandS.ExcIs
import HandS.Style
import HandS.Zip
import KE.KOpsOwn
import HandS.OwnEq
import HandS.WordsDict
import HandS.TupAny
import PyProof.SumWalk
import HandS.HeadHook2
import HandS.HeadWalk
import KE.KNestM
import PySem.Challenge.RW_longshares_k01_ratios_reckoned
set_option Elab.async false
set_option linter.all false
set_option maxRecDepth 100000
set_option maxHeartbeats 1000000
/-! EL1: deep values, a small store, how they lie in the abstract heap. -/
namespace EL
open PySem PySem.Spec PyProof.Rows L2

/-- a value by its contents; ob r: the r-th changeable object of the store; lam i: the i-th lambda of the def that runs -/
inductive LV where
  | non | bl (b : Bool) | int (i : Int) | str (s : Str) | ty (n : String)
  | cl (c : Nat)
  | tup (xs : List LV) | lst (xs : List LV) | dct (kvs : List (Key × LV))
  | ins (c : Nat) (fs : List (Nat × LV))
  | exc (c : Nat) (fs : List (Nat × LV))
  | ob (r : Nat)
  | lam (i : Nat)
  deriving Inhabited
inductive MO where
  | gone
  | lst (xs : List LV) | dct (kvs : List (Key × LV)) | ins (c : Nat) (fs : List (Nat × LV))
abbrev Sto := List MO
abbrev Ls := List (Option LV)
inductive Rs (α : Type) where
  | ok (a : α) | ex (c : Nat) (fs : List (Nat × LV))
abbrev Rz (α : Type) := Option (Rs α × Sto)
abbrev Ev := Ls → Sto → Rz LV
abbrev Av := Ls → Sto → Rz (List LV)
abbrev Mv := List LV → Sto → Rz LV

/-- the lambdas that are alive: what is known of the object of the i-th; the slots of the def that made them -/
structure Lm where
  A : Nat → Option (Addr → Hp → Prop)
  M : ∀ i φ, A i = some φ → ∀ a F F', Same F F' → φ a F → φ a F'
  S : Option (Ls × List (Option V))
def Lm.no : Lm := ⟨fun _ => none, (fun _ _ h => nomatch h), none⟩
def Lm.setS (l : Lm) (ls : Ls) (σ : List (Option V)) : Lm := ⟨l.A, l.M, some (ls, σ)⟩
/-- what the text says: where its classes stand, how its fields are called -/
structure Tx (K : PySem.W.Frag) where
  cls : Nat → Addr
  nm : Nat → Str
  fld : Nat → Nat → Bool
  xfld : Nat → Nat → Bool
  nmI : ∀ i j, nm i = nm j → i = j
  own : ∀ c f, fld c f = true → Cls K (cls c) ∧ NoAttr K (cls c) (nm f)
  xown : ∀ c f, xfld c f = true → XfC K (cls c) ∧ PySem.W.findIn K (.ref (cls c)) (nm f) = some .none
  tabs : List (Addr × Str)
  lm : Lm
abbrev Tx.lmA {K : PySem.W.Frag} (T : Tx K) := T.lm.A
abbrev Tx.lmS {K : PySem.W.Frag} (T : Tx K) := T.lm.S
abbrev Tx.setL {K : PySem.W.Frag} (T : Tx K) (l : Lm) : Tx K := { T with lm := l }

/-- where the changeable objects lie; pr: objects that nobody touches meanwhile -/
structure Ad where
  l : List Addr
  pr : Hp
def Ad.snoc (A : Ad) (p : Addr) : Ad := ⟨A.l ++ [p], A.pr⟩

/-- u tells of an exception's object at a, of the class at C, its own dict at d -/
def ExAt (u : HO) (a C : Addr) (d : Option Addr) : Prop := ∃ p, u = .ext p ∧ ∀ h, p h → ∃ (oe : Obj) (vs : Array Value), h.get? a = some oe ∧ Zc (.ref C) d oe ∧ oe.data = .fields vs
/-- u tells of the dict of an exception, at d -/
def XdAt (u : HO) (d : Addr) (vs : List (Str × V)) : Prop := u = .xd vs ∨ u = exd d vs

section
variable {K : PySem.W.Frag} (T : Tx K) (Fz : Hp) (A : Ad)
mutual
inductive Rep : LV → V → Prop where
  | non : Rep .non .non
  | bl (b : Bool) : Rep (.bl b) (.bl b)
  | int (i : Int) : Rep (.int i) (.int i)
  | str (s : Str) : Rep (.str s) (.str s)
  | ty (n : String) : Rep (.ty n) (.ty n)
  | cl (c : Nat) : Rep (.cl c) (.ref (T.cls c))
  | tup {xs : List LV} {vs : List V} {a : Addr} (h : SqT K Fz a vs) (r : Reps xs vs) : Rep (.tup xs) (.ref a)
  | lst {xs : List LV} {vs : List V} {a : Addr} (h : SqL K Fz a vs) (r : Reps xs vs) : Rep (.lst xs) (.ref a)
  | dct {kvs : List (Key × LV)} {vs : List (Key × V)} {a : Addr} (h : Rd Fz a (.dK vs)) (r : RepK kvs vs) : Rep (.dct kvs) (.ref a)
  | ins {c : Nat} {fs : List (Nat × LV)} {vs : List (Str × V)} {a dx : Addr} (h : Fz a = some (.ins (T.cls c) dx vs)) (r : RepF fs vs) (w : ∀ p ∈ fs, T.fld c p.1 = true) : Rep (.ins c fs) (.ref a)
  | exc {c : Nat} {fs : List (Nat × LV)} {vs : List (Str × V)} {a d : Addr} {u w : HO} (h : Fz a = some u) (e : ExAt u a (T.cls c) (some d)) (hd : Fz d = some w) (x : XdAt w d vs) (r : RepF fs vs) (q : ∀ p ∈ fs, T.xfld c p.1 = true) : Rep (.exc c fs) (.ref a)
  | exc0 {c : Nat} {a : Addr} {u : HO} (h : Fz a = some u) (e : ExAt u a (T.cls c) .none) : Rep (.exc c []) (.ref a)
  | ob {r : Nat} {a : Addr} (h : A.l[r]? = some a) : Rep (.ob r) (.ref a)
  | lam {i : Nat} {a : Addr} (h : ∀ φ, T.lmA i = some φ → φ a Fz) : Rep (.lam i) (.ref a)
inductive Reps : List LV → List V → Prop where
  | nil : Reps [] []
  | cons {x : LV} {xs : List LV} {v : V} {vs : List V} (h : Rep x v) (r : Reps xs vs) : Reps (x :: xs) (v :: vs)
inductive RepF : List (Nat × LV) → List (Str × V) → Prop where
  | nil : RepF [] []
  | cons {f : Nat} {x : LV} {v : V} {xs : List (Nat × LV)} {vs : List (Str × V)} (h : Rep x v) (r : RepF xs vs) : RepF ((f, x) :: xs) ((T.nm f, v) :: vs)
inductive RepK : List (Key × LV) → List (Key × V) → Prop where
  | nil : RepK [] []
  | cons {k : Key} {x : LV} {v : V} {xs : List (Key × LV)} {vs : List (Key × V)} (h : Rep x v) (r : RepK xs vs) : RepK ((k, x) :: xs) ((k, v) :: vs)
end
end

section
variable {K : PySem.W.Frag} {T : Tx K} {Fz Fz' : Hp} {A A' : Ad}
def Ap (A A' : Ad) : Prop := A'.pr = A.pr ∧ ∃ B, A'.l = A.l ++ B
theorem Ap.refl (A : Ad) : Ap A A := ⟨rfl, [], by simp⟩
theorem Ap.trans {A A' A'' : Ad} (a : Ap A A') (b : Ap A' A'') : Ap A A'' := by
  obtain ⟨e, B, h⟩ := a; obtain ⟨e', C, h'⟩ := b; exact ⟨e'.trans e, B ++ C, by rw [h', h]; simp⟩
theorem Ap.get {A A' : Ad} (a : Ap A A') {r : Nat} {x : Addr} (h : A.l[r]? = some x) : A'.l[r]? = some x := by
  obtain ⟨_, B, e⟩ := a
  rw [e, List.getElem?_append_left (List.getElem?_eq_some_iff.mp h).1]; exact h
theorem rd_mono {a : Addr} {u : HO} (s : Same Fz Fz') (h : Rd Fz a u) : Rd Fz' a u := by
  rcases h with h | ⟨o, h⟩
  · exact .inl (s _ _ h)
  · exact .inr ⟨o, s _ _ h⟩
theorem sqT_mono {a : Addr} {vs : List V} (s : Same Fz Fz') (h : SqT K Fz a vs) : SqT K Fz' a vs := by
  rcases h with h | h
  · exact .inl (rd_mono s h)
  · exact .inr h
/-- the places of A stand in A' -/
def Al (A A' : Ad) : Prop := ∀ (r : Nat) x, A.l[r]? = some x → A'.l[r]? = some x
theorem Ap.al {A A' : Ad} (a : Ap A A') : Al A A' := fun _ _ h => a.get h
mutual
theorem Rep.mono' (s : Same Fz Fz') (p : Al A A') : ∀ {v : LV} {x : V}, Rep T Fz A v x → Rep T Fz' A' v x
  | _, _, .non => .non
  | _, _, .bl b => .bl b
  | _, _, .int i => .int i
  | _, _, .str x => .str x
  | _, _, .ty x => .ty x
  | _, _, .cl c => .cl c
  | _, _, .tup h r => .tup (sqT_mono s h) (Reps.mono' s p r)
  | _, _, .lst h r => .lst (s.seq h) (Reps.mono' s p r)
  | _, _, .dct h r => .dct (rd_mono s h) (RepK.mono' s p r)
  | _, _, .ins h r w => .ins (s _ _ h) (RepF.mono' s p r) w
  | _, _, .exc h e hd x r q => .exc (s _ _ h) e (s _ _ hd) x (RepF.mono' s p r) q
  | _, _, .exc0 h e => .exc0 (s _ _ h) e
  | _, _, .ob h => .ob (p _ _ h)
  | _, _, .lam h => .lam fun φ e => T.lm.M _ φ e _ _ _ s (h φ e)
theorem Reps.mono' (s : Same Fz Fz') (p : Al A A') : ∀ {v : List LV} {x : List V}, Reps T Fz A v x → Reps T Fz' A' v x
  | _, _, .nil => .nil
  | _, _, .cons h r => .cons (Rep.mono' s p h) (Reps.mono' s p r)
theorem RepF.mono' (s : Same Fz Fz') (p : Al A A') : ∀ {v : List (Nat × LV)} {x : List (Str × V)}, RepF T Fz A v x → RepF T Fz' A' v x
  | _, _, .nil => .nil
  | _, _, .cons h r => .cons (Rep.mono' s p h) (RepF.mono' s p r)
theorem RepK.mono' (s : Same Fz Fz') (p : Al A A') : ∀ {v : List (Key × LV)} {x : List (Key × V)}, RepK T Fz A v x → RepK T Fz' A' v x
  | _, _, .nil => .nil
  | _, _, .cons h r => .cons (Rep.mono' s p h) (RepK.mono' s p r)
end
theorem Rep.mono (s : Same Fz Fz') (p : Ap A A') {v : LV} {x : V} (h : Rep T Fz A v x) : Rep T Fz' A' v x := h.mono' s p.al
theorem Reps.mono (s : Same Fz Fz') (p : Ap A A') {v : List LV} {x : List V} (h : Reps T Fz A v x) : Reps T Fz' A' v x := h.mono' s p.al
theorem RepF.mono (s : Same Fz Fz') (p : Ap A A') {v : List (Nat × LV)} {x : List (Str × V)} (h : RepF T Fz A v x) : RepF T Fz' A' v x := h.mono' s p.al
theorem RepK.mono (s : Same Fz Fz') (p : Ap A A') {v : List (Key × LV)} {x : List (Key × V)} (h : RepK T Fz A v x) : RepK T Fz' A' v x := h.mono' s p.al
theorem Reps.length : ∀ {v : List LV} {x : List V}, Reps T Fz A v x → v.length = x.length
  | _, _, .nil => rfl
  | _, _, .cons _ r => by simp [Reps.length r]
theorem Reps.append : ∀ {v w : List LV} {x y : List V}, Reps T Fz A v x → Reps T Fz A w y → Reps T Fz A (v ++ w) (x ++ y)
  | _, _, _, _, .nil, h => h
  | _, _, _, _, .cons h r, q => .cons h (Reps.append r q)
theorem Reps.get : ∀ {v : List LV} {x : List V} {i : Nat} {a : LV}, Reps T Fz A v x → v[i]? = some a → ∃ b, x[i]? = some b ∧ Rep T Fz A a b
  | _, _, _, _, .nil, h => by simp at h
  | _, _, 0, _, .cons h r, e => by simp at e; subst e; exact ⟨_, rfl, h⟩
  | _, _, i + 1, _, .cons h r, e => by simpa using Reps.get (i := i) r (by simpa using e)
theorem Reps.get' : ∀ {v : List LV} {x : List V} {i : Nat} {b : V}, Reps T Fz A v x → x[i]? = some b → ∃ a, v[i]? = some a ∧ Rep T Fz A a b
  | _, _, _, _, .nil, h => by simp at h
  | _, _, 0, _, .cons h r, e => by simp at e; subst e; exact ⟨_, rfl, h⟩
  | _, _, i + 1, _, .cons h r, e => by simpa using Reps.get' (i := i) r (by simpa using e)
theorem RepF.length : ∀ {v : List (Nat × LV)} {x : List (Str × V)}, RepF T Fz A v x → v.length = x.length
  | _, _, .nil => rfl
  | _, _, .cons _ r => by simp [RepF.length r]
theorem RepK.length : ∀ {v : List (Key × LV)} {x : List (Key × V)}, RepK T Fz A v x → v.length = x.length
  | _, _, .nil => rfl
  | _, _, .cons _ r => by simp [RepK.length r]
theorem RepF.look : ∀ {v : List (Nat × LV)} {x : List (Str × V)} {f : Nat} {a : LV}, RepF T Fz A v x → v.lookup f = some a → ∃ b, x.lookup (T.nm f) = some b ∧ Rep T Fz A a b
  | _, _, _, _, .nil, h => by simp at h
  | _, _, f, _, .cons (f := g) h r, e => by
    rw [List.lookup_cons] at e ⊢
    by_cases z : f = g
    · subst z; simp at e; subst e; simp; exact h
    · have z' : T.nm f ≠ T.nm g := fun q => z (T.nmI _ _ q)
      rw [show (f == g) = false by simpa using z] at e
      rw [show (T.nm f == T.nm g) = false by simpa using z']
      exact RepF.look r e
theorem RepF.none : ∀ {v : List (Nat × LV)} {x : List (Str × V)} {f : Str}, RepF T Fz A v x → (∀ g, T.nm g ≠ f) → x.lookup f = .none
  | _, _, _, .nil, _ => rfl
  | _, _, f, .cons (f := g) h r, e => by
    rw [List.lookup_cons, show (f == T.nm g) = false by simpa using Ne.symm (e g)]
    exact RepF.none r e
/-- a field stored -/
def putL (f : Nat) (v : LV) : List (Nat × LV) → List (Nat × LV)
  | [] => [(f, v)]
  | (g, x) :: r => if g = f then (g, v) :: r else (g, x) :: putL f v r
theorem RepF.put {f : Nat} {a : LV} {b : V} (q : Rep T Fz A a b) : ∀ {v : List (Nat × LV)} {x : List (Str × V)}, RepF T Fz A v x → RepF T Fz A (putL f a v) (putF (T.nm f) b x)
  | _, _, .nil => .cons q .nil
  | _, _, .cons (f := g) h r => by
    unfold putL putF
    by_cases z : g = f
    · subst z; rw [if_pos rfl, if_pos rfl]; exact .cons q r
    · rw [if_neg z, if_neg fun e => z (T.nmI _ _ e)]; exact .cons h (RepF.put q r)
theorem putL_length (f : Nat) (v : LV) : ∀ l : List (Nat × LV), (putL f v l).length ≤ l.length + 1
  | [] => by simp [putL]
  | (g, x) :: r => by
    unfold putL
    split
    · simp
    · have := putL_length f v r; simp; omega

/-! ### the world -/
def MRep (T : Tx K) (H Fz : Hp) (A : Ad) : MO → Addr → Prop
  | .gone, _ => True
  | .lst xs, a => ∃ vs, H a = some (.lst vs) ∧ Reps T Fz A xs vs
  | .dct kvs, a => ∃ vs, H a = some (.dK vs) ∧ RepK T Fz A kvs vs
  | .ins c fs, a => (∃ dx vs, H a = some (.ins (T.cls c) dx vs) ∧ RepF T Fz A fs vs) ∧ ∀ p ∈ fs, T.fld c p.1 = true
def MO.live : MO → Bool
  | .gone => false
  | _ => true
/-- the objects that the store changes -/
def Chg : HO → Prop
  | .lst _ => True
  | .dK _ => True
  | .ins _ _ _ => True
  | _ => False
/-- the slots ls are told by σ -/
def SR (T : Tx K) (Fz : Hp) (A : Ad) (ls : Ls) (σ : List (Option V)) : Prop := ls.length = σ.length ∧ ∀ (i : Nat) v, ls[i]? = some (some v) → ∃ x, σ[i]? = some (some x) ∧ Rep T Fz A v x
theorem SR.mono {ls : Ls} {σ : List (Option V)} (s : Same Fz Fz') (p : Ap A A') (r : SR T Fz A ls σ) : SR T Fz' A' ls σ :=
  ⟨r.1, fun i v h => let ⟨x, h1, h2⟩ := r.2 i v h; ⟨x, h1, h2.mono s p⟩⟩
theorem SR.mono2 {ls : Ls} {σ : List (Option V)} (s : Same Fz Fz') (p : Al A A') (r : SR T Fz A ls σ) : SR T Fz' A' ls σ :=
  ⟨r.1, fun i v h => let ⟨x, h1, h2⟩ := r.2 i v h; ⟨x, h1, h2.mono' s p⟩⟩
structure Wd (T : Tx K) (H Fz : Hp) (A : Ad) (st : Sto) : Prop where
  fz : Same Fz H
  len : A.l.length = st.length
  mo : ∀ (r : Nat) a o, A.l[r]? = some a → st[r]? = some o → MRep T H Fz A o a
  sep : ∀ (r : Nat) a o, A.l[r]? = some a → st[r]? = some o → o.live = true → Fz a = .none
  inj : ∀ (r q : Nat) a, A.l[r]? = some a → A.l[q]? = some a → r = q
  tr : ∀ (r : Nat) a, A.l[r]? = some a → H a ≠ .none
  tab : LamX.Tabs T.tabs H
  ntb : ∀ a ps, Fz a ≠ some (.tbl ps)
  prs : ∀ b o, A.pr b = some o → H b = some o ∧ Fz b = .none ∧ b ∉ A.l
  lam : ∀ ls σ, T.lmS = some (ls, σ) → SR T Fz A ls σ
  prt : ∀ b o, A.pr b = some o → Chg o
end
end EL

set_option Elab.async false
set_option linter.all false
set_option maxRecDepth 100000
set_option maxHeartbeats 1000000
/-! EL2: what changes the world; readings of functions; names, operators, displays, calls, statements. -/
namespace EL
open PySem PySem.Spec PyProof.Rows L2
section
variable {K : PySem.W.Frag} {T : Tx K} {H Fz : Hp} {A : Ad} {st : Sto}

theorem ap_snoc (A : Ad) (p : Addr) : Ap A (A.snoc p) := ⟨rfl, [p], rfl⟩
theorem same_upd {H : Hp} {p : Addr} {o : HO} (n : H p = .none) : Same H (upd H p o) := fun b u e => by rw [upd_ne (ne_of_none e n)]; exact e
theorem Wd.fn (w : Wd T H Fz A st) {p : Addr} (n : H p = .none) : Fz p = .none := w.fz.free n
theorem Wd.nep (w : Wd T H Fz A st) {p : Addr} (n : H p = .none) {r : Nat} {a : Addr} (h : A.l[r]? = some a) : a ≠ p := fun z => w.tr r a h (by rw [z]; exact n)
theorem MRep.mono {H' Fz' : Hp} {A' : Ad} {o : MO} {a : Addr} (s : Same Fz Fz') (p : Ap A A') (e : H a = H' a) (m : MRep T H Fz A o a) : MRep T H' Fz' A' o a := by
  cases o with
  | gone => trivial
  | lst xs => obtain ⟨vs, h, r⟩ := m; exact ⟨vs, by rw [← e]; exact h, r.mono s p⟩
  | dct xs => obtain ⟨vs, h, r⟩ := m; exact ⟨vs, by rw [← e]; exact h, r.mono s p⟩
  | ins c fs => obtain ⟨⟨dx, vs, h, r⟩, q⟩ := m; exact ⟨⟨dx, vs, by rw [← e]; exact h, r.mono s p⟩, q⟩
/-- a new object that never changes -/
theorem Wd.new (w : Wd T H Fz A st) {p : Addr} {o : HO} (n : H p = .none) (nt : ∀ ps, o ≠ .tbl ps) : Wd T (upd H p o) (upd Fz p o) A st where
  fz := fun b u e => by
    by_cases hb : b = p
    · subst hb; rw [upd_same] at e ⊢; exact e
    · rw [upd_ne hb] at e ⊢; exact w.fz _ _ e
  len := w.len
  mo := fun r a o' h1 h2 => (w.mo r a o' h1 h2).mono (same_upd (w.fn n)) (Ap.refl A) (upd_ne (w.nep n h1)).symm
  sep := fun r a o' h1 h2 h3 => by rw [upd_ne (w.nep n h1)]; exact w.sep r a o' h1 h2 h3
  inj := w.inj
  tr := fun r a h => by rw [upd_ne (w.nep n h)]; exact w.tr r a h
  tab := w.tab.ext (same_upd n)
  ntb := fun b ps e => by
    by_cases hb : b = p
    · subst hb; rw [upd_same] at e; cases e; exact nt ps rfl
    · rw [upd_ne hb] at e; exact w.ntb b ps e
  prs := fun b u e => by
    obtain ⟨h1, h2, h3⟩ := w.prs b u e
    have hb := ne_of_none h1 n
    exact ⟨by rw [upd_ne hb]; exact h1, by rw [upd_ne hb]; exact h2, h3⟩
  lam := fun ls σ e => (w.lam ls σ e).mono (same_upd (w.fn n)) (Ap.refl A)
  prt := w.prt
/-- any new object beside -/
theorem Wd.aside (w : Wd T H Fz A st) {p : Addr} {o : HO} (n : H p = .none) : Wd T (upd H p o) Fz A st where
  fz := fun b u e => by rw [upd_ne (ne_of_none (w.fz _ _ e) n)]; exact w.fz _ _ e
  len := w.len
  mo := fun r a o' h1 h2 => (w.mo r a o' h1 h2).mono (Same.refl _) (Ap.refl A) (upd_ne (w.nep n h1)).symm
  sep := w.sep
  inj := w.inj
  tr := fun r a h => by rw [upd_ne (w.nep n h)]; exact w.tr r a h
  tab := w.tab.ext (same_upd n)
  ntb := w.ntb
  prs := fun b u e => by
    obtain ⟨h1, h2, h3⟩ := w.prs b u e
    exact ⟨by rw [upd_ne (ne_of_none h1 n)]; exact h1, h2, h3⟩
  lam := w.lam
  prt := w.prt
/-- what stands in the heap and is none of the changeable ones is taken as never changing -/
theorem Wd.keep (w : Wd T H Fz A st) {p : Addr} {o : HO} (h : H p = some o) (nA : p ∉ A.l) (nt : ∀ ps, o ≠ .tbl ps) (hF : Fz p = .none) (hp : A.pr p = .none) : Wd T H (upd Fz p o) A st where
  fz := fun b u e => by
    by_cases hb : b = p
    · subst hb; rw [upd_same] at e; cases e; exact h
    · rw [upd_ne hb] at e; exact w.fz _ _ e
  len := w.len
  mo := fun r a o' h1 h2 => (w.mo r a o' h1 h2).mono (same_upd hF) (Ap.refl A) rfl
  sep := fun r a o' h1 h2 h3 => by rw [upd_ne (a := p) (b := a) fun z => nA (by rw [← z]; exact List.mem_of_getElem? h1)]; exact w.sep r a o' h1 h2 h3
  inj := w.inj
  tr := w.tr
  tab := w.tab
  ntb := fun b ps e => by
    by_cases hb : b = p
    · subst hb; rw [upd_same] at e; cases e; exact nt ps rfl
    · rw [upd_ne hb] at e; exact w.ntb b ps e
  prs := fun b u e => by
    obtain ⟨h1, h2, h3⟩ := w.prs b u e
    exact ⟨h1, by rw [upd_ne (ne_of_none e hp)]; exact h2, h3⟩
  lam := fun ls σ e => (w.lam ls σ e).mono (same_upd hF) (Ap.refl A)
  prt := w.prt
theorem get_snoc {α : Type} {l : List α} {x y : α} {r : Nat} (h : (l ++ [x])[r]? = some y) : l[r]? = some y ∨ (r = l.length ∧ y = x) := by
  by_cases hr : r < l.length
  · rw [List.getElem?_append_left hr] at h; exact .inl h
  · have h1 := (List.getElem?_eq_some_iff.mp h).1
    have e : r = l.length := by simp at h1; omega
    subst e
    rw [List.getElem?_append_right (Nat.le_refl _)] at h
    simp at h
    exact .inr ⟨rfl, h.symm⟩
/-- a new changeable object -/
theorem Wd.grow (w : Wd T H Fz A st) {p : Addr} {o : HO} {m : MO} (n : H p = .none) (hm : MRep T (upd H p o) Fz (A.snoc p) m p) : Wd T (upd H p o) Fz (A.snoc p) (st ++ [m]) where
  fz := fun b u e => by rw [upd_ne (ne_of_none (w.fz _ _ e) n)]; exact w.fz _ _ e
  len := by simp [Ad.snoc, w.len]
  mo := fun r a o' h1 h2 => by
    rcases get_snoc h1 with h1 | ⟨e1, e2⟩
    · have hr : r < st.length := by rw [← w.len]; exact (List.getElem?_eq_some_iff.mp h1).1
      rw [List.getElem?_append_left hr] at h2
      exact (w.mo r a o' h1 h2).mono (Same.refl _) (ap_snoc A p) (upd_ne (w.nep n h1)).symm
    · subst e1 e2
      rw [w.len, List.getElem?_append_right (Nat.le_refl _)] at h2
      simp at h2
      subst h2
      exact hm
  sep := fun r a o' h1 h2 h3 => by
    rcases get_snoc h1 with h1 | ⟨e1, e2⟩
    · have hr : r < st.length := by rw [← w.len]; exact (List.getElem?_eq_some_iff.mp h1).1
      rw [List.getElem?_append_left hr] at h2
      exact w.sep r a o' h1 h2 h3
    · subst e2; exact w.fn n
  inj := fun r q a h1 h2 => by
    rcases get_snoc h1 with h1 | ⟨e1, e2⟩ <;> rcases get_snoc h2 with h2 | ⟨e3, e4⟩
    · exact w.inj r q a h1 h2
    · exact absurd e4 (w.nep n h1)
    · exact absurd e2 (w.nep n h2)
    · omega
  tr := fun r a h => by
    rcases get_snoc h with h | ⟨e1, e2⟩
    · rw [upd_ne (w.nep n h)]; exact w.tr r a h
    · subst e2; rw [upd_same]; exact fun z => nomatch z
  tab := w.tab.ext (same_upd n)
  ntb := w.ntb
  prs := fun b u e => by
    obtain ⟨h1, h2, h3⟩ := w.prs b u e
    have hb := ne_of_none h1 n
    exact ⟨by rw [upd_ne hb]; exact h1, h2, fun z => by
      rcases List.mem_append.mp z with z | z
      · exact h3 z
      · exact hb (List.mem_singleton.mp z)⟩
  lam := fun ls σ e => (w.lam ls σ e).mono (Same.refl _) (ap_snoc A p)
  prt := w.prt
theorem tabs_upd {Ts : List (Addr × Str)} {a : Addr} {u o : HO} (t : LamX.Tabs Ts H) (h : H a = some u) (c : Chg u) : LamX.Tabs Ts (upd H a o) := fun p hp => by
  obtain ⟨ps, e1, e2, e3⟩ := t p hp
  refine ⟨ps, ?_, e2, fun pos cv hc => ?_⟩
  · rw [upd_ne (a := a) (b := p.1) fun z => ?_]; exact e1
    rw [z, h] at e1; cases e1; exact c
  · obtain ⟨c', e4, e5⟩ := e3 pos cv hc
    refine ⟨c', e4, ?_⟩
    rw [upd_ne (a := a) (b := c') fun z => ?_]; exact e5
    rw [z, h] at e5; cases e5; exact c
theorem MRep.chg {o : MO} {a : Addr} (m : MRep T H Fz A o a) (l : o.live = true) : ∃ u, H a = some u ∧ Chg u := by
  cases o with
  | gone => cases l
  | lst xs => obtain ⟨vs, h, _⟩ := m; exact ⟨_, h, trivial⟩
  | dct xs => obtain ⟨vs, h, _⟩ := m; exact ⟨_, h, trivial⟩
  | ins c fs => obtain ⟨⟨dx, vs, h, _⟩, _⟩ := m; exact ⟨_, h, trivial⟩
/-- a changeable object is changed -/
theorem Wd.set (w : Wd T H Fz A st) {r : Nat} {a : Addr} {o : HO} {m m' : MO} (hA : A.l[r]? = some a) (hs : st[r]? = some m) (l : m.live = true) (hm : MRep T (upd H a o) Fz A m' a) : Wd T (upd H a o) Fz A (st.set r m') := by
  obtain ⟨u, hu, cu⟩ := (w.mo r a m hA hs).chg l
  have fa := w.sep r a m hA hs l
  have ne : ∀ q b, A.l[q]? = some b → q ≠ r → b ≠ a := fun q b h1 h2 z => h2 (w.inj q r a (by rw [← z]; exact h1) hA)
  refine ⟨fun b v e => ?_, by simpa using w.len, fun q b o' h1 h2 => ?_, fun q b o' h1 h2 h3 => ?_, w.inj, fun q b h => ?_, tabs_upd w.tab hu cu, w.ntb, fun b v e => ?_, w.lam, w.prt⟩
  · rw [upd_ne (ne_of_none e fa)]; exact w.fz _ _ e
  · by_cases hq : q = r
    · subst hq
      rw [hA] at h1; cases h1
      rw [List.getElem?_set_self (List.getElem?_eq_some_iff.mp hs).1] at h2
      cases h2
      exact hm
    · rw [List.getElem?_set_ne (Ne.symm hq)] at h2
      exact (w.mo q b o' h1 h2).mono (Same.refl _) (Ap.refl A) (upd_ne (ne q b h1 hq)).symm
  · by_cases hq : q = r
    · subst hq
      rw [hA] at h1; cases h1
      exact fa
    · rw [List.getElem?_set_ne (Ne.symm hq)] at h2
      exact w.sep q b o' h1 h2 h3
  · by_cases hb : b = a
    · subst hb; rw [upd_same]; exact fun z => nomatch z
    · rw [upd_ne hb]; exact w.tr q b h
  · obtain ⟨h1, h2, h3⟩ := w.prs b v e
    exact ⟨by rw [upd_ne fun z => h3 (by rw [z]; exact List.mem_of_getElem? hA)]; exact h1, h2, h3⟩
/-- a changeable object stays as it is from now on -/
theorem Wd.freeze (w : Wd T H Fz A st) {r : Nat} {a : Addr} {u : HO} {m : MO} (hA : A.l[r]? = some a) (hs : st[r]? = some m) (l : m.live = true) (hu : H a = some u) : Wd T H (upd Fz a u) A (st.set r .gone) ∧ Same Fz (upd Fz a u) := by
  have fa := w.sep r a m hA hs l
  obtain ⟨u', hu', cu⟩ := (w.mo r a m hA hs).chg l
  rw [hu] at hu'; cases hu'
  have ne : ∀ q b, A.l[q]? = some b → q ≠ r → b ≠ a := fun q b h1 h2 z => h2 (w.inj q r a (by rw [← z]; exact h1) hA)
  refine ⟨⟨fun b v e => ?_, by simpa using w.len, fun q b o' h1 h2 => ?_, fun q b o' h1 h2 h3 => ?_, w.inj, w.tr, w.tab, fun b ps e => ?_, fun b v e => ?_, fun ls σ e => (w.lam ls σ e).mono (same_upd fa) (Ap.refl A), w.prt⟩, same_upd fa⟩
  · by_cases hb : b = a
    · subst hb; rw [upd_same] at e; cases e; exact hu
    · rw [upd_ne hb] at e; exact w.fz _ _ e
  · by_cases hq : q = r
    · subst hq
      rw [List.getElem?_set_self (List.getElem?_eq_some_iff.mp hs).1] at h2
      cases h2
      trivial
    · rw [List.getElem?_set_ne (Ne.symm hq)] at h2
      exact (w.mo q b o' h1 h2).mono (same_upd fa) (Ap.refl A) rfl
  · by_cases hq : q = r
    · subst hq
      rw [List.getElem?_set_self (List.getElem?_eq_some_iff.mp hs).1] at h2
      cases h2
      cases h3
    · rw [List.getElem?_set_ne (Ne.symm hq)] at h2
      rw [upd_ne (ne q b h1 hq)]
      exact w.sep q b o' h1 h2 h3
  · by_cases hb : b = a
    · subst hb; rw [upd_same] at e; cases e; exact cu
    · rw [upd_ne hb] at e; exact w.ntb b ps e
  · obtain ⟨h1, h2, h3⟩ := w.prs b v e
    exact ⟨h1, by rw [upd_ne fun z => h3 (by rw [z]; exact List.mem_of_getElem? hA)]; exact h2, h3⟩
theorem Wd.at (w : Wd T H Fz A st) {r : Nat} {m : MO} (hs : st[r]? = some m) : ∃ a, A.l[r]? = some a ∧ MRep T H Fz A m a := by
  have h1 : r < A.l.length := by rw [w.len]; exact (List.getElem?_eq_some_iff.mp hs).1
  exact ⟨A.l[r], List.getElem?_eq_getElem h1, w.mo r _ m (List.getElem?_eq_getElem h1) hs⟩

/-! ### slots -/
theorem SR.set {ls : Ls} {σ : L2.St} {v : LV} {x : V} (r : SR T Fz A ls σ) (q : Rep T Fz A v x) (i : Nat) : SR T Fz A (ls.set i (some v)) (σ.set i (some x)) := by
  refine ⟨by simpa using r.1, fun j w h => ?_⟩
  by_cases hj : j = i
  · subst hj
    have hl := (List.getElem?_eq_some_iff.mp h).1
    rw [List.length_set] at hl
    rw [List.getElem?_set_self hl] at h
    cases h
    exact ⟨x, List.getElem?_set_self (show j < σ.length from r.1 ▸ hl), q⟩
  · rw [List.getElem?_set_ne (Ne.symm hj)] at h ⊢
    exact r.2 j w h
theorem SR.unset {ls : Ls} {σ : L2.St} (r : SR T Fz A ls σ) (i : Nat) : SR T Fz A (ls.set i .none) (σ.set i .none) := by
  refine ⟨by simpa using r.1, fun j w h => ?_⟩
  by_cases hj : j = i
  · subst hj
    have hl := (List.getElem?_eq_some_iff.mp h).1
    rw [List.length_set] at hl
    rw [List.getElem?_set_self hl] at h
    cases h
  · rw [List.getElem?_set_ne (Ne.symm hj)] at h ⊢
    exact r.2 j w h

/-! ### what is told of an answer -/
def ExRep (T : Tx K) (Fz : Hp) (A : Ad) (c : Nat) (fs : List (Nat × LV)) : Option Addr → Prop
  | .none => fs = []
  | some d => ∃ vs, Fz d = some (.xd vs) ∧ RepF T Fz A fs vs ∧ ∀ p ∈ fs, T.xfld c p.1 = true
abbrev Ok (α : Type) := α → Hp → Hp → Ad → Sto → Prop
abbrev Xq := Value → Option Addr → Hp → Prop
def Go {α : Type} (T : Tx K) (Fz : Hp) (A : Ad) (ok : Ok α) (ex : Xq) : Rz α → Prop
  | .none => False
  | some (.ok v, st) => ∀ H Fz' A', Same Fz Fz' → Ap A A' → Wd T H Fz' A' st → ok v H Fz' A' st
  | some (.ex c fs, st) => ∀ H Fz' A' d, Same Fz Fz' → Ap A A' → Wd T H Fz' A' st → ExRep T Fz' A' c fs d → ex (.ref (T.cls c)) d H
def bnd {α β : Type} (x : Rz α) (k : α → Sto → Rz β) : Rz β := match x with
  | .none => .none
  | some (.ok v, st) => k v st
  | some (.ex c fs, st) => some (.ex c fs, st)
theorem Go.mono {α : Type} {Fz' : Hp} {A' : Ad} {ok : Ok α} {ex : Xq} {x : Rz α} (s : Same Fz Fz') (p : Ap A A') (g : Go T Fz A ok ex x) : Go T Fz' A' ok ex x := by
  match x, g with
  | some (.ok v, st), g => exact fun H F B h1 h2 w => g H F B (s.trans h1) (p.trans h2) w
  | some (.ex c fs, st), g => exact fun H F B d h1 h2 w e => g H F B d (s.trans h1) (p.trans h2) w e
theorem Go.bnd {α β : Type} {ok : Ok β} {ex : Xq} {x : Rz α} {k : α → Sto → Rz β} (g : Go T Fz A ok ex (bnd x k)) :
    Go T Fz A (fun v H Fz' A' st => Same Fz Fz' ∧ Ap A A' ∧ Wd T H Fz' A' st ∧ Go T Fz' A' ok ex (k v st)) ex x := by
  match x, g with
  | some (.ok v, st), g => exact fun H F B h1 h2 w => ⟨h1, h2, w, g.mono h1 h2⟩
  | some (.ex c fs, st), g => exact g
theorem Go.imp {α : Type} {ok ok' : Ok α} {ex ex' : Xq} {x : Rz α} (g : Go T Fz A ok ex x) (h : ∀ v H F B st, Same Fz F → Ap A B → Wd T H F B st → ok v H F B st → ok' v H F B st) (h' : ∀ c d H, ex c d H → ex' c d H) : Go T Fz A ok' ex' x := by
  match x, g with
  | some (.ok v, st), g => exact fun H F B h1 h2 w => h v H F B st h1 h2 w (g H F B h1 h2 w)
  | some (.ex c fs, st), g => exact fun H F B d h1 h2 w e => h' _ _ _ (g H F B d h1 h2 w e)

/-! ### readings of functions -/
def tEv (T : Tx K) (W : WX) (f : Ev) : TE := fun σ H Q => ∃ ls st Fz A, Wd T H Fz A st ∧ SR T Fz A ls σ ∧
  Go T Fz A (fun v H' Fz' A' _ => ∀ x, Rep T Fz' A' v x → Q x H') (fun c d H' => W c d σ H') (f ls st)
def tAv (T : Tx K) (W : WX) (f : Av) : TA := fun σ H Q => ∃ ls st Fz A, Wd T H Fz A st ∧ SR T Fz A ls σ ∧
  Go T Fz A (fun v H' Fz' A' _ => ∀ x, Reps T Fz' A' v x → Q x H') (fun c d H' => W c d σ H') (f ls st)
/-- f first, then k -/
theorem tEv_seq {β : Type} {W : WX} {f : Ev} {ls : Ls} {σ : L2.St} {k : LV → Sto → Rz β} {ok : Ok β} (w : Wd T H Fz A st) (s : SR T Fz A ls σ) (g : Go T Fz A ok (fun c d H' => W c d σ H') (bnd (f ls st) k)) :
    tEv T W f σ H fun x H1 => ∃ v F B st1, Same Fz F ∧ Ap A B ∧ Wd T H1 F B st1 ∧ SR T F B ls σ ∧ Rep T F B v x ∧ Go T F B ok (fun c d H' => W c d σ H') (k v st1) :=
  ⟨ls, st, Fz, A, w, s, g.bnd.imp (fun v H F B st h1 h2 w' h => fun x r => ⟨v, F, B, st, h.1, h.2.1, h.2.2.1, s.mono h.1 h.2.1, r, h.2.2.2⟩) fun _ _ _ h => h⟩
theorem tAv_seq {β : Type} {W : WX} {f : Av} {ls : Ls} {σ : L2.St} {k : List LV → Sto → Rz β} {ok : Ok β} (w : Wd T H Fz A st) (s : SR T Fz A ls σ) (g : Go T Fz A ok (fun c d H' => W c d σ H') (bnd (f ls st) k)) :
    tAv T W f σ H fun x H1 => ∃ v F B st1, Same Fz F ∧ Ap A B ∧ Wd T H1 F B st1 ∧ SR T F B ls σ ∧ Reps T F B v x ∧ Go T F B ok (fun c d H' => W c d σ H') (k v st1) :=
  ⟨ls, st, Fz, A, w, s, g.bnd.imp (fun v H F B st h1 h2 w' h => fun x r => ⟨v, F, B, st, h.1, h.2.1, h.2.2.1, s.mono h.1 h.2.1, r, h.2.2.2⟩) fun _ _ _ h => h⟩
end

theorem PE.imp {X : Cx} {e : Expr} {t t' : TE} (h : PE X e t) (i : ∀ σ H Q, t' σ H Q → t σ H Q) : PE X e t' := ⟨fun pins s σ H Q I q => h.run pins s σ H Q I (i _ _ _ q)⟩
theorem PT.imp {X : Cx} {e : Expr} {t t' : TT} (h : PT X e t) (i : ∀ σ H Q, t' σ H Q → t σ H Q) : PT X e t' := ⟨fun pins s σ H Q I q => h.run pins s σ H Q I (i _ _ _ q)⟩
theorem PA.imp {X : Cx} {e : List Expr} {t t' : TA} (h : PA X e t) (i : ∀ σ H Q, t' σ H Q → t σ H Q) : PA X e t' := ⟨fun pos pins s σ H Q I q => h.run pos pins s σ H Q I (i _ _ _ q)⟩
theorem PS.imp {X : Cx} {e : Stmt} {t t' : TS} (h : PS X e t) (i : ∀ D σ H, t' D σ H → t D σ H) : PS X e t' := ⟨fun pins s σ H D I q => h.run pins s σ H D I (i _ _ _ q)⟩
theorem PSs.imp {X : Cx} {e : List Stmt} {t t' : TS} (h : PSs X e t) (i : ∀ D σ H, t' D σ H → t D σ H) : PSs X e t' := ⟨fun pins s σ H D I q => h.run pins s σ H D I (i _ _ _ q)⟩
/-- the readings of a and b may take more and more of what they tell -/
theorem TE.use {X : Cx} {e : Expr} {t : TE} (h : PE X e t) : PE X e t := h
end EL

set_option Elab.async false
set_option linter.all false
set_option maxRecDepth 100000
set_option maxHeartbeats 1000000
/-! EL3: names, constants, operators by values, tests, displays, items, statements, defs. -/
namespace EL
open PySem PySem.Spec PyProof.Rows L2

/-- what is wanted behind a value -/
abbrev okV {K : PySem.W.Frag} (T : Tx K) (Q : VK) : Ok LV := fun v H' Fz' A' _ => ∀ x, Rep T Fz' A' v x → Q x H'
abbrev exW (W : WX) (σ : L2.St) : Xq := fun c d H' => W c d σ H'

/-! ### functions -/
def eVar (i : Nat) : Ev := fun ls st => match ls[i]? with
  | some (some v) => some (.ok v, st)
  | _ => .none
def eK (v : LV) : Ev := fun _ st => some (.ok v, st)
def eOp2 (F : LV → LV → Sto → Rz LV) (a b : Ev) : Ev := fun ls st => bnd (a ls st) fun v st => bnd (b ls st) fun u st => F v u st
def eOp1 (F : LV → Sto → Rz LV) (a : Ev) : Ev := fun ls st => bnd (a ls st) F
def aNil : Av := fun _ st => some (.ok [], st)
def aCons (a : Ev) (r : Av) : Av := fun ls st => bnd (a ls st) fun v st => bnd (r ls st) fun vs st => some (.ok (v :: vs), st)
def eTup (r : Av) : Ev := fun ls st => bnd (r ls st) fun vs st => if vs.length ≤ 1000 then some (.ok (.tup vs), st) else .none
def eLst (r : Av) : Ev := fun ls st => bnd (r ls st) fun vs st => if vs.length ≤ 1000 then some (.ok (.lst vs), st) else .none
def eLstM (r : Av) : Ev := fun ls st => bnd (r ls st) fun vs st => if vs.length ≤ 1000 then some (.ok (.ob st.length), st ++ [.lst vs]) else .none
abbrev Tv := Ls → Sto → Rz Bool
/-- a value's truth -/
def truL : LV → Sto → Option Bool
  | .non, _ => some false
  | .bl b, _ => some b
  | .int i, _ => some (i != 0)
  | .str s, _ => if s.length ≤ 16777216 then some ((s.length : Int) != 0) else .none
  | .tup xs, _ => some (!xs.isEmpty)
  | .lst xs, _ => some (!xs.isEmpty)
  | .ob r, st => match st[r]? with
    | some (.lst xs) => some (!xs.isEmpty)
    | some (.dct xs) => some (!xs.isEmpty)
    | _ => .none
  | _, _ => .none
def tru (v : LV) (st : Sto) : Rz Bool := match truL v st with
  | some b => some (.ok b, st)
  | .none => .none
def tVal (a : Ev) : Tv := fun ls st => bnd (a ls st) tru
def tNt (t : Tv) : Tv := fun ls st => bnd (t ls st) fun b st => some (.ok (!b), st)
def tAn (t u : Tv) : Tv := fun ls st => bnd (t ls st) fun b st => match b with
  | true => u ls st
  | false => some (.ok false, st)
def tO (t u : Tv) : Tv := fun ls st => bnd (t ls st) fun b st => match b with
  | true => some (.ok true, st)
  | false => u ls st
def eIfx (t : Tv) (a b : Ev) : Ev := fun ls st => bnd (t ls st) fun c st => match c with
  | true => a ls st
  | false => b ls st
def eAn (a b : Ev) : Ev := fun ls st => bnd (a ls st) fun v st => bnd (tru v st) fun c st => match c with
  | true => b ls st
  | false => some (.ok v, st)
def eO (a b : Ev) : Ev := fun ls st => bnd (a ls st) fun v st => bnd (tru v st) fun c st => match c with
  | true => some (.ok v, st)
  | false => b ls st
def eNt (a : Ev) : Ev := fun ls st => bnd (a ls st) fun v st => bnd (tru v st) fun c st => some (.ok (.bl (!c)), st)

/-! ### rules by values -/
section
variable {X : Cx} (T : Tx X.K) (W : WX)
def OpV (f : Value → Value → Sem Value) (F : LV → LV → Sto → Rz LV) : Prop :=
  ∀ (pins : List (Addr × Obj)) (s : Shared) (σ : L2.St) (H Fz : Hp) (A : Ad) (st : Sto) (v1 v2 : LV) (x y : V) (u1 u2 : Value) (Q : VK), Inv X pins σ H s → Wd T H Fz A st → RelV x u1 → RelV y u2 → Rep T Fz A v1 x → Rep T Fz A v2 y →
    Go T Fz A (okV T Q) (exW W σ) (F v1 v2 st) → wpAny (model X.prog X.w) X.A (f u1 u2) (EP X pins σ Q) X.xe s
def UnV (f : Value → Sem Value) (F : LV → Sto → Rz LV) : Prop :=
  ∀ (pins : List (Addr × Obj)) (s : Shared) (σ : L2.St) (H Fz : Hp) (A : Ad) (st : Sto) (v1 : LV) (x : V) (u1 : Value) (Q : VK), Inv X pins σ H s → Wd T H Fz A st → RelV x u1 → Rep T Fz A v1 x →
    Go T Fz A (okV T Q) (exW W σ) (F v1 st) → wpAny (model X.prog X.w) X.A (f u1) (EP X pins σ Q) X.xe s
def CallV (f : Value) (F : Mv) : Prop :=
  ∀ (pins : List (Addr × Obj)) (s : Shared) (σ : L2.St) (H Fz : Hp) (A : Ad) (st : Sto) (vs : List LV) (xs : List V) (us : List Value) (Q : VK), Inv X pins σ H s → Wd T H Fz A st → Vals xs us → Reps T Fz A vs xs →
    Go T Fz A (okV T Q) (exW W σ) (F vs st) → wpAny (model X.prog X.w) X.A (call f us) (EP X pins σ Q) X.xe s
end
section
variable {X : Cx} {T : Tx X.K} {W : WX}
/-- a rule of the hand layer, for values -/
theorem OpV.of {f : Value → Value → Sem Value} {F : LV → LV → Sto → Rz LV} {r : R2} (h : OpR X f r)
    (i : ∀ {H Fz : Hp} {A : Ad} {st : Sto} {v1 v2 : LV} {x y : V} {Q : VK} {ex : Xq}, Wd T H Fz A st → Rep T Fz A v1 x → Rep T Fz A v2 y → Go T Fz A (okV T Q) ex (F v1 v2 st) → r x y H Q) : OpV T W f F :=
  fun pins s σ H Fz A st v1 v2 x y u1 u2 Q I w r1 r2 p1 p2 g => h pins s σ H x y u1 u2 Q I r1 r2 (i w p1 p2 g)
theorem UnV.of {f : Value → Sem Value} {F : LV → Sto → Rz LV} {r : V → Hp → VK → Prop} (h : UnR X f r)
    (i : ∀ {H Fz : Hp} {A : Ad} {st : Sto} {v1 : LV} {x : V} {Q : VK} {ex : Xq}, Wd T H Fz A st → Rep T Fz A v1 x → Go T Fz A (okV T Q) ex (F v1 st) → r x H Q) : UnV T W f F :=
  fun pins s σ H Fz A st v1 x u1 Q I w r1 p1 g => h pins s σ H x u1 Q I r1 (i w p1 g)
theorem CallV.of {f : Value} {F : Mv} {r : List V → Hp → VK → Prop} (h : CallR X f r)
    (i : ∀ {H Fz : Hp} {A : Ad} {st : Sto} {vs : List LV} {xs : List V} {Q : VK} {ex : Xq}, Wd T H Fz A st → Reps T Fz A vs xs → Go T Fz A (okV T Q) ex (F vs st) → r xs H Q) : CallV T W f F :=
  fun pins s σ H Fz A st vs xs us Q I w r1 p1 g => h pins s σ H xs us Q I r1 (i w p1 g)

/-! ### expressions -/
variable {a b e : Expr} {es rest : List Expr} {fa fb : Ev} {fr : Av} {pos : Pos}
theorem ev_var (i : Nat) {x : Str} (h : PE X (.Name x pos) (tVar i)) : PE X (.Name x pos) (tEv T W (eVar i)) := PE.imp h fun σ H Q => by
  rintro ⟨ls, st, Fz, A, w, sr, g⟩
  unfold eVar at g
  split at g
  · rename_i v hv
    obtain ⟨x, h1, h2⟩ := sr.2 i v hv
    exact ⟨x, h1, g H Fz A (Same.refl _) (Ap.refl _) w x h2⟩
  · exact g.elim
theorem ev_c {v : LV} {x : V} (h : PE X e (tC x)) (r : ∀ Fz A, Rep T Fz A v x) : PE X e (tEv T W (eK v)) := PE.imp h fun σ H Q => by
  rintro ⟨ls, st, Fz, A, w, sr, g⟩
  exact g H Fz A (Same.refl _) (Ap.refl _) w x (r _ _)
theorem ev_int {i : Int} {j} : PE X (.Constant (.int i) j pos) (tEv T W (eK (.int i))) := ev_c pe_int fun _ _ => .int i
theorem ev_str {i : Str} {j} : PE X (.Constant (.str i) j pos) (tEv T W (eK (.str i))) := ev_c pe_str fun _ _ => .str i
theorem ev_bl {i : Bool} {j} : PE X (.Constant (.bool i) j pos) (tEv T W (eK (.bl i))) := ev_c pe_bl fun _ _ => .bl i
theorem ev_non {j} : PE X (.Constant .none j pos) (tEv T W (eK .non)) := ev_c pe_non fun _ _ => .non

theorem go2 {pins : List (Addr × Obj)} {s : Shared} {σ : L2.St} {H : Hp} {Q : VK} {f : Value → Value → Sem Value} {F : LV → LV → Sto → Rz LV} (ho : OpV T W f F) (ha : PE X a (tEv T W fa)) (hb : PE X b (tEv T W fb)) (I : Inv X pins σ H s) (h : tEv T W (eOp2 F fa fb) σ H Q) :
    wpAny (model X.prog X.w) X.A (eval a X.env) (fun v s₁ => wpAny (model X.prog X.w) X.A (eval b X.env) (fun u s₂ => wpAny (model X.prog X.w) X.A (f v u) (EP X pins σ Q) X.xe s₂) X.xe s₁) X.xe s := by
  obtain ⟨ls, st, Fz, A, w, sr, g⟩ := h
  refine thn (ha.run pins s σ H _ I (tEv_seq w sr g)) fun v s1 ⟨x, H1, I1, r1, q1⟩ => ?_
  obtain ⟨v1, F1, A1, st1, s1', p1, w1, sr1, rp1, g1⟩ := q1
  refine thn (hb.run pins s1 σ H1 _ I1 (tEv_seq w1 sr1 g1)) fun u s2 ⟨y, H2, I2, r2, q2⟩ => ?_
  obtain ⟨v2, F2, A2, st2, s2', p2, w2, sr2, rp2, g2⟩ := q2
  exact ho pins s2 σ H2 F2 A2 st2 v1 v2 x y v u Q I2 w2 r1 r2 (rp1.mono s2' p2) rp2 g2
theorem ev_op {op : Operator} {F : LV → LV → Sto → Rz LV} (ho : OpV T W (binaryOp op) F) (ha : PE X a (tEv T W fa)) (hb : PE X b (tEv T W fb)) : PE X (.BinOp a op b pos) (tEv T W (eOp2 F fa fb)) :=
  ⟨fun pins s σ H Q I h => wpAny_BinOp (go2 ho ha hb I h)⟩
theorem ev_cmp {op : CmpOp} {F : LV → LV → Sto → Rz LV} (ho : OpV T W (compareOp op) F) (ha : PE X a (tEv T W fa)) (hb : PE X b (tEv T W fb)) (hm : behindInMarks op b = false) : PE X (.Compare a [op] [b] pos) (tEv T W (eOp2 F fa fb)) :=
  ⟨fun pins s σ H Q I h => wpAny_Compare1 (go2 ho ha hb I h) hm⟩
theorem ev_un {op : UnaryOp} {F : LV → Sto → Rz LV} (ho : UnV T W (unaryOp op) F) (ha : PE X a (tEv T W fa)) : PE X (.UnaryOp op a pos) (tEv T W (eOp1 F fa)) := by
  refine ⟨fun pins s σ H Q I h => ?_⟩
  obtain ⟨ls, st, Fz, A, w, sr, g⟩ := h
  refine UnaryOp_ (thn (ha.run pins s σ H _ I (tEv_seq w sr g)) fun v s1 ⟨x, H1, I1, r1, q1⟩ => ?_)
  obtain ⟨v1, F1, A1, st1, s1', p1, w1, sr1, rp1, g1⟩ := q1
  exact ho pins s1 σ H1 F1 A1 st1 v1 x v Q I1 w1 r1 rp1 g1

/-! ### tests -/
def tTv (T : Tx X.K) (W : WX) (f : Tv) : TT := fun σ H Q => ∃ ls st Fz A, Wd T H Fz A st ∧ SR T Fz A ls σ ∧ Go T Fz A (fun v H' _ _ _ => Q v H') (exW W σ) (f ls st)
theorem tTv_seq {β : Type} {H Fz : Hp} {A : Ad} {st : Sto} {f : Tv} {ls : Ls} {σ : L2.St} {k : Bool → Sto → Rz β} {ok : Ok β} (w : Wd T H Fz A st) (s : SR T Fz A ls σ) (g : Go T Fz A ok (exW W σ) (bnd (f ls st) k)) :
    tTv T W f σ H fun v H1 => ∃ F B st1, Same Fz F ∧ Ap A B ∧ Wd T H1 F B st1 ∧ SR T F B ls σ ∧ Go T F B ok (exW W σ) (k v st1) :=
  ⟨ls, st, Fz, A, w, s, g.bnd.imp (fun v H F B st h1 h2 w' h => ⟨F, B, st, h.1, h.2.1, h.2.2.1, s.mono h.1 h.2.1, h.2.2.2⟩) fun _ _ _ h => h⟩
theorem tru_rep {H Fz : Hp} {A : Ad} {st : Sto} {v : LV} {x : V} {k : Bool} (w : Wd T H Fz A st) (r : Rep T Fz A v x) (e : truL v st = some k) : TruV X.K x H k := by
  have len : ∀ {xs : List LV} {vs : List V}, Reps T Fz A xs vs → (!xs.isEmpty) = !vs.isEmpty := fun r => by cases r <;> rfl
  have lenk : ∀ {xs : List (Key × LV)} {vs : List (Key × V)}, RepK T Fz A xs vs → (!xs.isEmpty) = !vs.isEmpty := fun r => by cases r <;> rfl
  cases r with
  | non => cases e; rfl
  | bl b => cases e; rfl
  | int i => cases e; rfl
  | str s =>
    simp only [truL] at e
    split at e
    · rename_i h
      cases e
      exact ⟨by rw [sizeLine_eq]; exact h, rfl⟩
    · cases e
  | ty n => cases e
  | cl c => cases e
  | tup h r => cases e; exact .inr (.inl ⟨_, sqT_mono w.fz h, len r⟩)
  | lst h r => cases e; exact .inl ⟨_, w.fz.seq h, len r⟩
  | dct h r => cases e
  | ins h r => cases e
  | exc h => cases e
  | exc0 h => cases e
  | lam h => cases e
  | @ob r a h =>
    simp only [truL] at e
    split at e
    · rename_i xs hs
      cases e
      obtain ⟨vs, hv, rr⟩ := w.mo r a _ h hs
      exact .inl ⟨vs, SqL.of hv, len rr⟩
    · rename_i xs hs
      cases e
      obtain ⟨vs, hv, rr⟩ := w.mo r a _ h hs
      exact .inr (.inr ⟨vs, hv, lenk rr⟩)
    · cases e
/-- the truth of a value that was told -/
theorem run_tru {pins : List (Addr × Obj)} {s : Shared} {σ : L2.St} {H Fz : Hp} {A : Ad} {st : Sto} {v : LV} {x : V} {u : Value} {β : Type} {ok : Ok β} {ex : Xq} {k : Bool → Sto → Rz β} {R : Bool → Shared → Prop} {E : Value → Shared → Prop} (I : Inv X pins σ H s) (w : Wd T H Fz A st) (rv : RelV x u) (r : Rep T Fz A v x)
    (g : Go T Fz A ok ex (bnd (tru v st) k)) (h : ∀ c s', Inv X pins σ H s' → Go T Fz A ok ex (k c st) → R c s') : wpAny (model X.prog X.w) X.A (truthy u) R X.xe s := by
  unfold tru at g
  split at g
  · rename_i c hc
    refine thn (tru_ok pins s σ H x u (fun c' H2 => c' = c ∧ H2 = H) I rv ⟨c, tru_rep w r hc, rfl, rfl⟩) fun c' s2 hh => ?_
    obtain ⟨H2, I2, e1, e2⟩ := hh
    rw [e2] at I2
    rw [e1]
    exact h c s2 I2 g
  · exact g.elim
theorem et_val (ha : PE X a (tEv T W fa)) (he : ∀ whole, isTrue a X.env whole = (do let v ← whole; standAt a.pos; holding [v] (truthy v))) : PT X a (tTv T W (tVal fa)) := by
  refine ⟨fun pins s σ H Q I h => ?_⟩
  obtain ⟨ls, st, Fz, A, w, sr, g⟩ := h
  refine isTrue_plain (thn (ha.run pins s σ H _ I (tEv_seq w sr g)) fun v s1 ⟨x, H1, I1, r1, q1⟩ => ?_) (he _)
  obtain ⟨v1, F1, A1, st1, s1', p1, w1, sr1, rp1, g1⟩ := q1
  have g2 : Go T F1 A1 (fun v H' _ _ _ => Q v H') (exW W σ) (bnd (tru v1 st1) fun c st => some (.ok c, st)) := by
    cases e : tru v1 st1 with
    | none => rw [e] at g1; exact g1.elim
    | some y => obtain ⟨z, q⟩ := y; cases z <;> (rw [e] at g1; exact g1)
  exact run_tru (E := fun _ _ => True) I1 w1 r1 rp1 g2 fun c s' I' g' => ⟨H1, I', g' H1 F1 A1 (Same.refl _) (Ap.refl _) w1⟩
theorem et_cmp {op : CmpOp} {F : LV → LV → Sto → Rz LV} (ho : OpV T W (compareOp op) F) (ha : PE X a (tEv T W fa)) (hb : PE X b (tEv T W fb)) (hm : behindInMarks op b = false) : PT X (.Compare a [op] [b] pos) (tTv T W (tVal (eOp2 F fa fb))) := by
  refine ⟨fun pins s σ H Q I h => ?_⟩
  obtain ⟨ls, st, Fz, A, w, sr, g⟩ := h
  refine wpAny_isTrue_Compare1 (thn (go2 ho ha hb I (tEv_seq w sr g)) fun v s1 h1 => thn h1 fun u s2 h2 => thn h2 fun c s3 h3 => ?_) hm
  obtain ⟨x, H1, I1, r1, v1, F1, A1, st1, s1', p1, w1, sr1, rp1, g1⟩ := h3
  have g2 : Go T F1 A1 (fun v H' _ _ _ => Q v H') (exW W σ) (bnd (tru v1 st1) fun c st => some (.ok c, st)) := by
    cases e : tru v1 st1 with
    | none => rw [e] at g1; exact g1.elim
    | some y => obtain ⟨z, q⟩ := y; cases z <;> (rw [e] at g1; exact g1)
  exact run_tru (E := fun _ _ => True) I1 w1 r1 rp1 g2 fun c s' I' g' => ⟨H1, I', g' H1 F1 A1 (Same.refl _) (Ap.refl _) w1⟩
theorem tTv_q {f : Tv} {σ : L2.St} {H : Hp} {Q Q' : Bool → Hp → Prop} (h : tTv T W f σ H Q) (i : ∀ b H', Q b H' → Q' b H') : tTv T W f σ H Q' := by
  obtain ⟨ls, st, Fz, A, w, sr, g⟩ := h
  exact ⟨ls, st, Fz, A, w, sr, g.imp (fun v H F B st _ _ _ h => i _ _ h) fun _ _ _ h => h⟩
theorem tEv_q {f : Ev} {σ : L2.St} {H : Hp} {Q Q' : VK} (h : tEv T W f σ H Q) (i : ∀ b H', Q b H' → Q' b H') : tEv T W f σ H Q' := by
  obtain ⟨ls, st, Fz, A, w, sr, g⟩ := h
  exact ⟨ls, st, Fz, A, w, sr, g.imp (fun v H F B st _ _ _ h => fun x r => i _ _ (h x r)) fun _ _ _ h => h⟩
theorem tAv_q {f : Av} {σ : L2.St} {H : Hp} {Q Q' : List V → Hp → Prop} (h : tAv T W f σ H Q) (i : ∀ b H', Q b H' → Q' b H') : tAv T W f σ H Q' := by
  obtain ⟨ls, st, Fz, A, w, sr, g⟩ := h
  exact ⟨ls, st, Fz, A, w, sr, g.imp (fun v H F B st _ _ _ h => fun x r => i _ _ (h x r)) fun _ _ _ h => h⟩
theorem et_not {t : Tv} (h : PT X a (tTv T W t)) : PT X (.UnaryOp .Not a pos) (tTv T W (tNt t)) := PT.imp (pt_not h) fun σ H Q => by
  rintro ⟨ls, st, Fz, A, w, sr, g⟩
  refine tTv_q (tTv_seq w sr g) fun b H' hh => ?_
  obtain ⟨F, B, st1, s1, p1, w1, sr1, g1⟩ := hh
  exact g1 H' F B (Same.refl _) (Ap.refl _) w1
theorem etw_and1 {t : Tv} (h : PT X a (tTv T W t)) : PW X (.BoolOp .And [a] pos) (tTv T W t) := pw_and1 h
theorem etw_or1 {t : Tv} (h : PT X a (tTv T W t)) : PW X (.BoolOp .Or [a] pos) (tTv T W t) := pw_or1 h
theorem PW.imp {X : Cx} {e : Expr} {t t' : TT} (h : PW X e t) (i : ∀ σ H Q, t' σ H Q → t σ H Q) : PW X e t' := ⟨fun wh pins s σ H Q I q => h.run wh pins s σ H Q I (i _ _ _ q)⟩
theorem etw_and {t u : Tv} (h : PT X a (tTv T W t)) (h' : PW X (.BoolOp .And (b :: rest) pos) (tTv T W u)) : PW X (.BoolOp .And (a :: b :: rest) pos) (tTv T W (tAn t u)) := PW.imp (pw_and h h') fun σ H Q => by
  rintro ⟨ls, st, Fz, A, w, sr, g⟩
  refine tTv_q (tTv_seq w sr g) fun b H' hh => ?_
  obtain ⟨F, B, st1, s1, p1, w1, sr1, g1⟩ := hh
  cases b with
  | true => exact iteT ⟨ls, st1, F, B, w1, sr1, g1⟩
  | false => exact iteF (g1 H' F B (Same.refl _) (Ap.refl _) w1)
theorem etw_or {t u : Tv} (h : PT X a (tTv T W t)) (h' : PW X (.BoolOp .Or (b :: rest) pos) (tTv T W u)) : PW X (.BoolOp .Or (a :: b :: rest) pos) (tTv T W (tO t u)) := PW.imp (pw_or h h') fun σ H Q => by
  rintro ⟨ls, st, Fz, A, w, sr, g⟩
  refine tTv_q (tTv_seq w sr g) fun b H' hh => ?_
  obtain ⟨F, B, st1, s1, p1, w1, sr1, g1⟩ := hh
  cases b with
  | false => exact iteF ⟨ls, st1, F, B, w1, sr1, g1⟩
  | true => exact iteT (g1 H' F B (Same.refl _) (Ap.refl _) w1)
theorem et_w {t : Tv} (h : PW X a (tTv T W t)) : PT X a (tTv T W t) := h.pt
theorem ev_ifx {c : Expr} {t : Tv} (hc : PT X c (tTv T W t)) (ha : PE X a (tEv T W fa)) (hb : PE X b (tEv T W fb)) : PE X (.IfExp c a b pos) (tEv T W (eIfx t fa fb)) := PE.imp (pe_ifExp hc ha hb) fun σ H Q => by
  rintro ⟨ls, st, Fz, A, w, sr, g⟩
  refine tTv_q (tTv_seq w sr g) fun b H' hh => ?_
  obtain ⟨F, B, st1, s1, p1, w1, sr1, g1⟩ := hh
  cases b with
  | true => exact iteT ⟨ls, st1, F, B, w1, sr1, g1⟩
  | false => exact iteF ⟨ls, st1, F, B, w1, sr1, g1⟩
theorem ev_bool1 {op} (ha : PE X a (tEv T W fa)) : PE X (.BoolOp op [a] pos) (tEv T W fa) := pe_one ha
theorem ev_and (ha : PE X a (tEv T W fa)) (hb : PE X (.BoolOp .And (b :: rest) pos) (tEv T W fb)) : PE X (.BoolOp .And (a :: b :: rest) pos) (tEv T W (eAn fa fb)) := by
  refine ⟨fun pins s σ H Q I h => ?_⟩
  obtain ⟨ls, st, Fz, A, w, sr, g⟩ := h
  refine BoolOp_and (thn (ha.run pins s σ H _ I (tEv_seq w sr g)) fun v s1 ⟨x, H1, I1, r1, q1⟩ => ?_)
  obtain ⟨v1, F1, A1, st1, s1', p1, w1, sr1, rp1, g1⟩ := q1
  refine run_tru (E := fun _ _ => True) I1 w1 r1 rp1 g1 fun c s' I' g' => ?_
  cases c with
  | true => exact hb.run pins s' σ H1 Q I' ⟨ls, st1, F1, A1, w1, sr1, g'⟩
  | false => exact ⟨x, H1, I', r1, g' H1 F1 A1 (Same.refl _) (Ap.refl _) w1 x rp1⟩
theorem ev_or (ha : PE X a (tEv T W fa)) (hb : PE X (.BoolOp .Or (b :: rest) pos) (tEv T W fb)) : PE X (.BoolOp .Or (a :: b :: rest) pos) (tEv T W (eO fa fb)) := by
  refine ⟨fun pins s σ H Q I h => ?_⟩
  obtain ⟨ls, st, Fz, A, w, sr, g⟩ := h
  refine BoolOp_or (thn (ha.run pins s σ H _ I (tEv_seq w sr g)) fun v s1 ⟨x, H1, I1, r1, q1⟩ => ?_)
  obtain ⟨v1, F1, A1, st1, s1', p1, w1, sr1, rp1, g1⟩ := q1
  refine run_tru (E := fun _ _ => True) I1 w1 r1 rp1 g1 fun c s' I' g' => ?_
  cases c with
  | false => exact hb.run pins s' σ H1 Q I' ⟨ls, st1, F1, A1, w1, sr1, g'⟩
  | true => exact ⟨x, H1, I', r1, g' H1 F1 A1 (Same.refl _) (Ap.refl _) w1 x rp1⟩
theorem ev_not (ha : PE X a (tEv T W fa)) : PE X (.UnaryOp .Not a pos) (tEv T W (eNt fa)) := by
  refine ⟨fun pins s σ H Q I h => ?_⟩
  obtain ⟨ls, st, Fz, A, w, sr, g⟩ := h
  refine UnaryOp_ (thn (ha.run pins s σ H _ I (tEv_seq w sr g)) fun v s1 ⟨x, H1, I1, r1, q1⟩ => ?_)
  obtain ⟨v1, F1, A1, st1, s1', p1, w1, sr1, rp1, g1⟩ := q1
  exact not_of (run_tru (E := fun _ _ => True) I1 w1 r1 rp1 g1 fun c s' I' g' => ⟨.bl (!c), H1, I', rfl, g' H1 F1 A1 (Same.refl _) (Ap.refl _) w1 _ (.bl _)⟩)

/-! ### arguments, displays -/
/-- an argument list and what it tells, as many as are written -/
structure EA (X : Cx) (T : Tx X.K) (W : WX) (es : List Expr) (fr : Av) : Prop where
  pa : PA X es (tAv T W fr)
  len : ∀ ls st vs st', fr ls st = some (.ok vs, st') → vs.length = es.length
theorem ea_nil : EA X T W [] aNil := ⟨PA.imp pa_nil fun σ H Q => by
  rintro ⟨ls, st, Fz, A, w, sr, g⟩
  exact g H Fz A (Same.refl _) (Ap.refl _) w [] .nil, fun _ _ _ _ h => by cases h; rfl⟩
theorem ea_cons (ha : PE X e (tEv T W fa)) (hr : EA X T W es fr) (hs : starEach (e :: es) X.env = (false, eval e X.env) :: starEach es X.env := by rfl) : EA X T W (e :: es) (aCons fa fr) := ⟨PA.imp (pa_cons ha hr.pa hs) fun σ H Q => by
  rintro ⟨ls, st, Fz, A, w, sr, g⟩
  refine tEv_q (tEv_seq w sr g) fun x H1 hh => ?_
  obtain ⟨v, F, B, st1, s1, p1, w1, sr1, r1, g1⟩ := hh
  refine tAv_q (tAv_seq w1 sr1 g1) fun xs H2 hh => ?_
  obtain ⟨vs, F2, B2, st2, s2, p2, w2, sr2, r2, g2⟩ := hh
  exact g2 H2 F2 B2 (Same.refl _) (Ap.refl _) w2 _ (.cons (r1.mono s2 p2) r2), fun ls st vs st' h => by
  unfold aCons at h
  cases e1 : fa ls st with
  | none => rw [e1] at h; cases h
  | some y =>
    obtain ⟨z, st1⟩ := y
    cases z with
    | ex c fs => rw [e1] at h; cases h
    | ok v =>
      rw [e1] at h
      simp only [bnd] at h
      cases e2 : fr ls st1 with
      | none => rw [e2] at h; cases h
      | some y2 =>
        obtain ⟨z2, st2⟩ := y2
        cases z2 with
        | ex c fs => rw [e2] at h; cases h
        | ok ws =>
          rw [e2] at h
          cases h
          simp [hr.len _ _ _ _ e2]⟩
theorem small_line {n : Nat} (h : n ≤ 1000) : n ≤ sizeLine := Nat.le_trans h (by decide)
theorem ev_tup {k} (hr : EA X T W es fr) : PE X (.Tuple es k pos) (tEv T W (eTup fr)) := PE.imp (pe_tup hr.pa) fun σ H Q => by
  rintro ⟨ls, st, Fz, A, w, sr, g⟩
  refine tAv_q (tAv_seq w sr g) fun xs H1 hh => ?_
  obtain ⟨vs, F, B, st1, s1, p1, w1, sr1, r1, g1⟩ := hh
  by_cases hl : vs.length ≤ 1000
  · rw [if_pos hl] at g1
    refine ⟨small_line (by rw [← r1.length]; exact hl), fun p n => ?_⟩
    have sm := same_upd (o := .tup xs) (w1.fn n)
    exact g1 _ (upd F p (.tup xs)) B sm (Ap.refl _) (w1.new n fun _ => nofun) _ (.tup (SqT.of upd_same) (r1.mono sm (Ap.refl _)))
  · rw [if_neg hl] at g1; exact g1.elim
theorem ev_lst (hr : EA X T W es fr) : PE X (.List es pos) (tEv T W (eLst fr)) := PE.imp (pe_lst hr.pa) fun σ H Q => by
  rintro ⟨ls, st, Fz, A, w, sr, g⟩
  refine tAv_q (tAv_seq w sr g) fun xs H1 hh => ?_
  obtain ⟨vs, F, B, st1, s1, p1, w1, sr1, r1, g1⟩ := hh
  by_cases hl : vs.length ≤ 1000
  · rw [if_pos hl] at g1
    refine ⟨small_line (by rw [← r1.length]; exact hl), fun p n => ?_⟩
    have sm := same_upd (o := .lst xs) (w1.fn n)
    exact g1 _ (upd F p (.lst xs)) B sm (Ap.refl _) (w1.new n fun _ => nofun) _ (.lst (SqL.of upd_same) (r1.mono sm (Ap.refl _)))
  · rw [if_neg hl] at g1; exact g1.elim
theorem ap_last {K : PySem.W.Frag} {T : Tx K} {H Fz : Hp} {A : Ad} {st : Sto} (w : Wd T H Fz A st) (p : Addr) : (A.snoc p).l[st.length]? = some p := by rw [← w.len]; simp [Ad.snoc]
theorem ev_lstM (hr : EA X T W es fr) : PE X (.List es pos) (tEv T W (eLstM fr)) := PE.imp (pe_lst hr.pa) fun σ H Q => by
  rintro ⟨ls, st, Fz, A, w, sr, g⟩
  refine tAv_q (tAv_seq w sr g) fun xs H1 hh => ?_
  obtain ⟨vs, F, B, st1, s1, p1, w1, sr1, r1, g1⟩ := hh
  by_cases hl : vs.length ≤ 1000
  · rw [if_pos hl] at g1
    refine ⟨small_line (by rw [← r1.length]; exact hl), fun p n => ?_⟩
    exact g1 _ F (B.snoc p) (Same.refl _) (ap_snoc B p) (w1.grow n ⟨xs, upd_same, r1.mono (Same.refl _) (ap_snoc B p)⟩) _ (.ob (ap_last w1 p))
  · rw [if_neg hl] at g1; exact g1.elim
end

/-! ### statements -/
inductive Fl where
  | nx (ls : Ls) | rt (v : LV) | bk (ls : Ls) | ct (ls : Ls) | ex (c : Nat) (fs : List (Nat × LV)) (ls : Ls)
abbrev Sz := Option (Fl × Sto)
abbrev Sv := Ls → Sto → Sz
def stE {α : Type} (x : Rz α) (ls : Ls) (k : α → Sto → Sz) : Sz := match x with
  | .none => .none
  | some (.ok v, st) => k v st
  | some (.ex c fs, st) => some (.ex c fs ls, st)
def sNil : Sv := fun ls st => some (.nx ls, st)
def sSeq (a b : Sv) : Sv := fun ls st => match a ls st with
  | some (.nx ls, st) => b ls st
  | r => r
def sIf (t : Tv) (a b : Sv) : Sv := fun ls st => stE (t ls st) ls fun c st => match c with
  | true => a ls st
  | false => b ls st
def sRet (e : Ev) : Sv := fun ls st => stE (e ls st) ls fun v st => some (.rt v, st)
def sRetN : Sv := fun _ st => some (.rt .non, st)
def sDo (e : Ev) : Sv := fun ls st => stE (e ls st) ls fun _ st => some (.nx ls, st)
def sSet (i : Nat) (e : Ev) : Sv := fun ls st => stE (e ls st) ls fun v st => some (.nx (ls.set i (some v)), st)
def sBrk : Sv := fun ls st => some (.bk ls, st)
def sCnt : Sv := fun ls st => some (.ct ls, st)
section
variable {K : PySem.W.Frag} (T : Tx K) (W : WX)
def GoS (D : Ends) (Fz : Hp) (A : Ad) : Sz → Prop
  | .none => False
  | some (.nx ls, st) => ∀ H F B σ, Same Fz F → Ap A B → Wd T H F B st → SR T F B ls σ → D.nx σ H
  | some (.bk ls, st) => ∀ H F B σ, Same Fz F → Ap A B → Wd T H F B st → SR T F B ls σ → D.bk σ H
  | some (.ct ls, st) => ∀ H F B σ, Same Fz F → Ap A B → Wd T H F B st → SR T F B ls σ → D.ct σ H
  | some (.rt v, st) => ∀ H F B x, Same Fz F → Ap A B → Wd T H F B st → Rep T F B v x → D.rt x H
  | some (.ex c fs ls, st) => ∀ H F B σ d, Same Fz F → Ap A B → Wd T H F B st → SR T F B ls σ → ExRep T F B c fs d → W (.ref (T.cls c)) d σ H
def tSv (f : Sv) : TS := fun D σ H => ∃ ls st Fz A, Wd T H Fz A st ∧ SR T Fz A ls σ ∧ GoS T W D Fz A (f ls st)
end
section
variable {K : PySem.W.Frag} {T : Tx K} {W : WX} {D : Ends} {H Fz : Hp} {A : Ad} {st : Sto} {ls : Ls} {σ : L2.St}
theorem GoS.mono {Fz' : Hp} {A' : Ad} {x : Sz} (s : Same Fz Fz') (p : Ap A A') (g : GoS T W D Fz A x) : GoS T W D Fz' A' x := by
  match x, g with
  | some (.nx ls, st), g => exact fun H F B σ h1 h2 => g H F B σ (s.trans h1) (p.trans h2)
  | some (.bk ls, st), g => exact fun H F B σ h1 h2 => g H F B σ (s.trans h1) (p.trans h2)
  | some (.ct ls, st), g => exact fun H F B σ h1 h2 => g H F B σ (s.trans h1) (p.trans h2)
  | some (.rt v, st), g => exact fun H F B x h1 h2 => g H F B x (s.trans h1) (p.trans h2)
  | some (.ex c fs ls, st), g => exact fun H F B σ d h1 h2 => g H F B σ d (s.trans h1) (p.trans h2)
theorem GoS.stE {α : Type} {x : Rz α} {k : α → Sto → Sz} (s : SR T Fz A ls σ) (g : GoS T W D Fz A (stE x ls k)) :
    Go T Fz A (fun v H F B st => Same Fz F ∧ Ap A B ∧ Wd T H F B st ∧ GoS T W D F B (k v st)) (exW W σ) x := by
  match x, g with
  | some (.ok v, st), g => exact fun H F B h1 h2 w => ⟨h1, h2, w, g.mono h1 h2⟩
  | some (.ex c fs, st), g => exact fun H F B d h1 h2 w e => g H F B σ d h1 h2 w (s.mono h1 h2) e
theorem tEv_st {f : Ev} {k : LV → Sto → Sz} (w : Wd T H Fz A st) (s : SR T Fz A ls σ) (g : GoS T W D Fz A (EL.stE (f ls st) ls k)) :
    tEv T W f σ H fun x H1 => ∃ v F B st1, Same Fz F ∧ Ap A B ∧ Wd T H1 F B st1 ∧ SR T F B ls σ ∧ Rep T F B v x ∧ GoS T W D F B (k v st1) :=
  ⟨ls, st, Fz, A, w, s, (g.stE s).imp (fun v H F B st h1 h2 w' h => fun x r => ⟨v, F, B, st, h.1, h.2.1, h.2.2.1, s.mono h.1 h.2.1, r, h.2.2.2⟩) fun _ _ _ h => h⟩
theorem tAv_st {f : Av} {k : List LV → Sto → Sz} (w : Wd T H Fz A st) (s : SR T Fz A ls σ) (g : GoS T W D Fz A (EL.stE (f ls st) ls k)) :
    tAv T W f σ H fun x H1 => ∃ v F B st1, Same Fz F ∧ Ap A B ∧ Wd T H1 F B st1 ∧ SR T F B ls σ ∧ Reps T F B v x ∧ GoS T W D F B (k v st1) :=
  ⟨ls, st, Fz, A, w, s, (g.stE s).imp (fun v H F B st h1 h2 w' h => fun x r => ⟨v, F, B, st, h.1, h.2.1, h.2.2.1, s.mono h.1 h.2.1, r, h.2.2.2⟩) fun _ _ _ h => h⟩
end
section
variable {X : Cx} {T : Tx X.K} {W : WX} {a b e : Expr} {fe : Ev} {p : Stmt} {ps qs : List Stmt} {f g : Sv} {t : Tv} {pos : Pos}
theorem tTv_st {D : Ends} {H Fz : Hp} {A : Ad} {st : Sto} {ls : Ls} {σ : L2.St} {k : Bool → Sto → Sz} (w : Wd T H Fz A st) (s : SR T Fz A ls σ) (g : GoS T W D Fz A (stE (t ls st) ls k)) :
    tTv T W t σ H fun v H1 => ∃ F B st1, Same Fz F ∧ Ap A B ∧ Wd T H1 F B st1 ∧ SR T F B ls σ ∧ GoS T W D F B (k v st1) :=
  ⟨ls, st, Fz, A, w, s, (g.stE s).imp (fun v H F B st h1 h2 w' h => ⟨F, B, st, h.1, h.2.1, h.2.2.1, s.mono h.1 h.2.1, h.2.2.2⟩) fun _ _ _ h => h⟩
theorem ess_nil : PSs X [] (tSv T W sNil) := PSs.imp pss_nil fun D σ H => by
  rintro ⟨ls, st, Fz, A, w, sr, g⟩
  exact g H Fz A σ (Same.refl _) (Ap.refl _) w sr
theorem ess_one (h : PS X p (tSv T W f)) : PSs X [p] (tSv T W f) := pss_one h
theorem ess_cons (h : PS X p (tSv T W f)) (hs : PSs X ps (tSv T W g)) : PSs X (p :: ps) (tSv T W (sSeq f g)) := PSs.imp (pss_cons h hs) fun D σ H => by
  rintro ⟨ls, st, Fz, A, w, sr, q⟩
  refine ⟨ls, st, Fz, A, w, sr, ?_⟩
  unfold sSeq at q
  cases e : f ls st with
  | none => rw [e] at q; exact q.elim
  | some y =>
    rw [e] at q
    match y, q with
    | (.nx ls', st'), q => exact fun H F B σ h1 h2 w' sr' => ⟨ls', st', F, B, w', sr', GoS.mono h1 h2 q⟩
    | (.bk ls', st'), q => exact q
    | (.ct ls', st'), q => exact q
    | (.rt v, st'), q => exact q
    | (.ex c fs ls', st'), q => exact q
theorem es_pass : PS X (.Pass pos) (tSv T W sNil) := PS.imp ps_pass fun D σ H => by
  rintro ⟨ls, st, Fz, A, w, sr, g⟩
  exact g H Fz A σ (Same.refl _) (Ap.refl _) w sr
theorem es_doc {x j pos'} : PS X (.Expr (.Constant (.str x) j pos) pos') (tSv T W sNil) := PS.imp ps_doc fun D σ H => by
  rintro ⟨ls, st, Fz, A, w, sr, g⟩
  exact g H Fz A σ (Same.refl _) (Ap.refl _) w sr
theorem es_break : PS X (.Break pos) (tSv T W sBrk) := PS.imp ps_break fun D σ H => by
  rintro ⟨ls, st, Fz, A, w, sr, g⟩
  exact g H Fz A σ (Same.refl _) (Ap.refl _) w sr
theorem es_cont : PS X (.Continue pos) (tSv T W sCnt) := PS.imp ps_continue fun D σ H => by
  rintro ⟨ls, st, Fz, A, w, sr, g⟩
  exact g H Fz A σ (Same.refl _) (Ap.refl _) w sr
theorem es_if (hc : PT X a (tTv T W t)) (hp : PSs X ps (tSv T W f)) (hq : PSs X qs (tSv T W g)) : PS X (.If a ps qs pos) (tSv T W (sIf t f g)) := PS.imp (ps_if hc hp hq) fun D σ H => by
  rintro ⟨ls, st, Fz, A, w, sr, q⟩
  refine tTv_q (tTv_st w sr q) fun b H' hh => ?_
  obtain ⟨F, B, st1, s1, p1, w1, sr1, g1⟩ := hh
  cases b with
  | true => exact iteT ⟨ls, st1, F, B, w1, sr1, g1⟩
  | false => exact iteF ⟨ls, st1, F, B, w1, sr1, g1⟩
theorem es_ret (he : PE X e (tEv T W fe)) : PS X (.Return (some e) pos) (tSv T W (sRet fe)) := PS.imp (ps_ret he) fun D σ H => by
  rintro ⟨ls, st, Fz, A, w, sr, q⟩
  refine tEv_q (tEv_st w sr q) fun b H' hh => ?_
  obtain ⟨v, F, B, st1, s1, p1, w1, sr1, r1, g1⟩ := hh
  exact g1 H' F B b (Same.refl _) (Ap.refl _) w1 r1
theorem es_retN : PS X (.Return none pos) (tSv T W sRetN) := PS.imp ps_retN fun D σ H => by
  rintro ⟨ls, st, Fz, A, w, sr, q⟩
  exact q H Fz A _ (Same.refl _) (Ap.refl _) w .non
theorem es_do (he : PE X e (tEv T W fe)) (hs : swapsWith e none pos.line X.env = pure false := by rfl) : PS X (.Expr e pos) (tSv T W (sDo fe)) := PS.imp (ps_expr he hs) fun D σ H => by
  rintro ⟨ls, st, Fz, A, w, sr, q⟩
  refine tEv_q (tEv_st w sr q) fun b H' hh => ?_
  obtain ⟨v, F, B, st1, s1, p1, w1, sr1, r1, g1⟩ := hh
  exact g1 H' F B σ (Same.refl _) (Ap.refl _) w1 sr1
/-- x = e: by the layer's own rule -/
theorem es_set {i : Nat} {s : Stmt} (h : ∀ {t : TE}, PE X e t → PS X s (tAsg t (gName i))) (he : PE X e (tEv T W fe)) : PS X s (tSv T W (sSet i fe)) := PS.imp (h he) fun D σ H => by
  rintro ⟨ls, st, Fz, A, w, sr, q⟩
  refine tEv_q (tEv_st w sr q) fun b H' hh => ?_
  obtain ⟨v, F, B, st1, s1, p1, w1, sr1, r1, g1⟩ := hh
  exact g1 H' F B _ (Same.refl _) (Ap.refl _) w1 (sr1.set r1 i)
end

/-! ### defs -/
def runB (n : Nat) (b : Sv) : Mv := fun vs st => match b (vs.map some ++ List.replicate (n - vs.length) .none) st with
  | some (.rt v, st) => some (.ok v, st)
  | some (.nx _, st) => some (.ok .non, st)
  | some (.ex c fs _, st) => some (.ex c fs, st)
  | _ => .none
def spM {K : PySem.W.Frag} (T : Tx K) (n : Nat) (M : Mv) : Sp := fun vs H Q E => vs.length = n ∧ ∃ lvs st Fz A, Wd T H Fz A st ∧ Reps T Fz A lvs vs ∧ Go T Fz A (okV T Q) E (M lvs st)
theorem sr_start {K : PySem.W.Frag} {T : Tx K} {Fz : Hp} {A : Ad} {lvs : List LV} {vs : List V} {N : List Str} (r : Reps T Fz A lvs vs) : SR T Fz A (lvs.map some ++ List.replicate (N.length - lvs.length) .none) (L2.start N vs) := by
  unfold L2.start
  refine ⟨by simp [r.length], fun i v h => ?_⟩
  by_cases hi : i < lvs.length
  · rw [List.getElem?_append_left (by simpa using hi), List.getElem?_map] at h
    cases e : lvs[i]? with
    | none => rw [e] at h; cases h
    | some w =>
      rw [e] at h; cases h
      obtain ⟨x, h1, h2⟩ := r.get e
      refine ⟨x, ?_, h2⟩
      rw [List.getElem?_append_left (by simpa using (List.getElem?_eq_some_iff.mp h1).1), List.getElem?_map, h1]
      rfl
  · rw [List.getElem?_append_right (by simpa using hi), List.getElem?_replicate] at h
    split at h <;> cases h
/-- a def's promise from its body -/
theorem fn_el {P : Program} {w : World} {K : PySem.W.Frag} {mg : Str → Option Value} {base : Heap} {T : Tx K} {x qual : Str} {params : Arguments} {body : List Stmt} {scope : Scope} {dvs : List V} {kws : List (Str × V)} {f : Addr} {fd : FuncData} {N ps : List Str} {k : Nat} {b : Sv} (F : FunD K x qual params body scope dvs kws f fd) (S : FnScope N ps scope)
    (hb : ∀ (cdv : Value) (A : Around) (outer : List Env) (s : Shared) (H : Hp) (E : XK), Room k (A.deeper (envOfC qual scope s.heap.objs.size f cdv)) →
      Takes (cxOf (L2.CX P w) P w K mg base N qual scope f cdv A outer s H E) (fun c d _ H' => E c d H') →
      PSs (cxOf (L2.CX P w) P w K mg base N qual scope f cdv A outer s H E) body (tSv T (fun c d _ H' => E c d H') b)) :
    FnOk P w K mg base (L2.CX P w) (k + 1) f fd ps (spM T ps.length (runB N.length b)) := by
  refine F.ok S (fun vs H Q E h => h.1) fun cdv A outer s H vs Q E hr h => ?_
  refine ⟨_, hb cdv A outer s H E hr (takes_of rfl rfl rfl rfl), ?_⟩
  obtain ⟨hl, lvs, st', Fz, B, wd, r, g⟩ := h
  refine ⟨_, st', Fz, B, wd, sr_start (N := N) r, ?_⟩
  unfold runB at g
  cases e : b (lvs.map some ++ List.replicate (N.length - lvs.length) .none) st' with
  | none => rw [e] at g; exact g.elim
  | some y =>
    rw [e] at g
    match y, g with
    | (.nx ls', st'), g => exact fun H F B σ h1 h2 w' sr' => g H F B h1 h2 w' _ .non
    | (.bk ls', st'), g => exact g.elim
    | (.ct ls', st'), g => exact g.elim
    | (.rt v, st'), g => exact fun H F B x h1 h2 w' r' => g H F B h1 h2 w' x r'
    | (.ex c fs ls', st'), g => exact fun H F B σ d h1 h2 w' sr' e => g H F B d h1 h2 w' e
end EL

set_option Elab.async false
set_option linter.all false
set_option maxRecDepth 100000
set_option maxHeartbeats 1000000
/-! EL4: operators: ints, equality of data, is; items; calls of defs and of a few built-ins. -/
namespace EL
open PySem PySem.Spec PyProof.Rows L2

/-! ### equality of data -/
/-- the items of a tuple (true) or a list (false) -/
def vw (st : Sto) : LV → Option (Bool × List LV)
  | .tup xs => some (true, xs)
  | .lst xs => some (false, xs)
  | .ob r => match st[r]? with
    | some (.lst xs) => some (false, xs)
    | _ => .none
  | _ => .none
def atm : LV → Bool
  | .non => true
  | .bl _ => true
  | .int _ => true
  | .str _ => true
  | _ => false
def b2 (b : Bool) : Int := if b then 1 else 0
def eqA : LV → LV → Bool
  | .non, .non => true
  | .bl a, .bl b => a == b
  | .bl a, .int b => b2 a == b
  | .int a, .bl b => a == b2 b
  | .int a, .int b => a == b
  | .str a, .str b => a == b
  | _, _ => false
def eqLs (f : LV → LV → Option Bool) : List LV → List LV → Option Bool
  | [], [] => some true
  | x :: xs, y :: ys => match f x y with
    | some a => match eqLs f xs ys with
      | some b => some (a && b)
      | .none => .none
    | .none => .none
  | _, _ => some false
def sameOb : LV → LV → Bool
  | .ob r, .ob q => r == q
  | _, _ => false
def eqS (f : LV → LV → Option Bool) (st : Sto) (v w : LV) : Option Bool := match atm v, atm w with
  | true, true => some (eqA v w)
  | true, false => match vw st w with
    | some _ => some false
    | .none => .none
  | false, true => match vw st v with
    | some _ => some false
    | .none => .none
  | false, false => match vw st v, vw st w with
    | some (k, xs), some (l, ys) => if k = l then eqLs f xs ys else some false
    | _, _ => .none
def eqN : Nat → Sto → LV → LV → Option Bool
  | 0, _, _, _ => .none
  | n + 1, st, v, w => match sameOb v w with
    | true => some true
    | false => eqS (eqN n st) st v w
/-- depth 20 is enough for the papers of laws -/
def oEq (v w : LV) (st : Sto) : Rz LV := match eqS (eqN 20 st) st v w with
  | some b => some (.ok (.bl b), st)
  | .none => .none
def oNe (v w : LV) (st : Sto) : Rz LV := match eqS (eqN 20 st) st v w with
  | some b => some (.ok (.bl (!b)), st)
  | .none => .none

theorem eqLs_spec {f : LV → LV → Option Bool} : ∀ {xs ys : List LV} {b : Bool}, eqLs f xs ys = some b →
    ∃ e : Nat → Bool, (∀ (j : Nat) x y, xs[j]? = some x → ys[j]? = some y → f x y = some (e j)) ∧ b = ((List.range (min xs.length ys.length)).all e && xs.length == ys.length)
  | [], [], b, h => by cases h; exact ⟨fun _ => true, fun j x y h => by simp at h, by simp⟩
  | [], y :: ys, b, h => by cases h; exact ⟨fun _ => true, fun j x y h => by simp at h, by simp⟩
  | x :: xs, [], b, h => by cases h; exact ⟨fun _ => true, fun j x y h h2 => by simp at h2, by simp⟩
  | x :: xs, y :: ys, b, h => by
    unfold eqLs at h
    cases e1 : f x y with
    | none => rw [e1] at h; cases h
    | some a =>
      cases e2 : eqLs f xs ys with
      | none => rw [e1, e2] at h; cases h
      | some c =>
        rw [e1, e2] at h; cases h
        obtain ⟨e, h1, h2⟩ := eqLs_spec e2
        refine ⟨fun j => match j with | 0 => a | j + 1 => e j, fun j x' y' hx hy => ?_, ?_⟩
        · cases j with
          | zero => simp at hx hy; subst hx; subst hy; exact e1
          | succ j => exact h1 j x' y' (by simpa using hx) (by simpa using hy)
        · subst h2
          rw [List.length_cons, List.length_cons, Nat.succ_min_succ, List.range_succ_eq_map, List.all_cons, List.all_map]
          have e3 : (xs.length + 1 == ys.length + 1) = (xs.length == ys.length) := by
            rw [Bool.eq_iff_iff]; simp
          rw [e3, Bool.and_assoc]
          rfl
section
variable {X : Cx} {T : Tx X.K} {pins : List (Addr × Obj)} {σ : L2.St} {H Fz : Hp} {A : Ad} {st : Sto} {s : Shared}
/-- a sequence as it lies -/
theorem vw_rep {v : LV} {x : V} {k : Bool} {xs : List LV} (w : Wd T H Fz A st) (r : Rep T Fz A v x) (h : vw st v = some (k, xs)) :
    ∃ a vs, x = .ref a ∧ Reps T Fz A xs vs ∧ ((k = true ∧ SqT X.K H a vs) ∨ (k = false ∧ SqL X.K H a vs)) := by
  cases r with
  | tup h' r' => cases h; exact ⟨_, _, rfl, r', .inl ⟨rfl, sqT_mono w.fz h'⟩⟩
  | lst h' r' => cases h; exact ⟨_, _, rfl, r', .inr ⟨rfl, w.fz.seq h'⟩⟩
  | @ob r a h' =>
    simp only [vw] at h
    split at h
    · rename_i zs hz
      cases h
      obtain ⟨vs, h1, h2⟩ := w.mo r a _ h' hz
      exact ⟨a, vs, rfl, h2, .inr ⟨rfl, SqL.of h1⟩⟩
    · cases h
  | _ => cases h
theorem apart_seq {a : Addr} {xs ys : List V} (I : Inv X pins σ H s) (h : SqT X.K H a xs) (h' : SqL X.K H a ys) : False := by
  obtain ⟨its, _, ⟨o, e1, e2, _⟩, _⟩ := I.tuple h
  obtain ⟨its', _, ⟨o', n', e3, e4, _⟩, _⟩ := I.list h'
  rw [e1] at e3; cases e3
  rw [e2] at e4
  injection e4 with q
  exact absurd q (by decide)
theorem eqLs_same {f : LV → LV → Option Bool} (hf : ∀ x y v b, Rep T Fz A x v → Rep T Fz A y v → f x y = some b → b = true) : ∀ {xs ys : List LV} {vs : List V} {b : Bool}, Reps T Fz A xs vs → Reps T Fz A ys vs → eqLs f xs ys = some b → b = true
  | _, _, _, b, .nil, .nil, h => by cases h; rfl
  | _, _, _, b, .cons (x := x) (xs := xs) h1 r1, .cons (x := y) (xs := ys) h2 r2, h => by
    unfold eqLs at h
    cases e1 : f x y with
    | none => rw [e1] at h; cases h
    | some a =>
      cases e2 : eqLs f xs ys with
      | none => rw [e1, e2] at h; cases h
      | some c =>
        rw [e1, e2] at h; cases h
        rw [hf _ _ _ _ h1 h2 e1, eqLs_same hf r1 r2 e2]
        rfl
theorem atm_rep {v : LV} {x : V} (r : Rep T Fz A v x) (h : atm v = true) : x = .non ∧ v = .non ∨ (∃ b, x = .bl b ∧ v = .bl b) ∨ (∃ b, x = .int b ∧ v = .int b) ∨ ∃ b, x = .str b ∧ v = .str b := by
  cases r with
  | non => exact .inl ⟨rfl, rfl⟩
  | bl b => exact .inr (.inl ⟨_, rfl, rfl⟩)
  | int b => exact .inr (.inr (.inl ⟨_, rfl, rfl⟩))
  | str b => exact .inr (.inr (.inr ⟨_, rfl, rfl⟩))
  | _ => cases h
theorem eqA_same {v w : LV} {x : V} (r1 : Rep T Fz A v x) (r2 : Rep T Fz A w x) (h1 : atm v = true) (h2 : atm w = true) : eqA v w = true := by
  rcases atm_rep r1 h1 with ⟨rfl, rfl⟩ | ⟨b, rfl, rfl⟩ | ⟨b, rfl, rfl⟩ | ⟨b, rfl, rfl⟩ <;> rcases atm_rep r2 h2 with ⟨e, rfl⟩ | ⟨c, e, rfl⟩ | ⟨c, e, rfl⟩ | ⟨c, e, rfl⟩ <;> cases e <;> simp [eqA]
theorem atm_noref {v : LV} {a : Addr} (r : Rep T Fz A v (.ref a)) (h : atm v = true) : False := by
  rcases atm_rep r h with ⟨e, _⟩ | ⟨b, e, _⟩ | ⟨b, e, _⟩ | ⟨b, e, _⟩ <;> cases e
theorem eqN_same (I : Inv X pins σ H s) (w : Wd T H Fz A st) : ∀ (n : Nat) (x y : LV) (v : V) (b : Bool), Rep T Fz A x v → Rep T Fz A y v → eqN n st x y = some b → b = true
  | 0, _, _, _, _, _, _, h => by cases h
  | n + 1, x, y, v, b, r1, r2, h => by
    unfold eqN at h
    split at h
    · cases h; rfl
    · unfold eqS at h
      split at h
      · rename_i h1 h2; cases h; exact eqA_same r1 r2 h1 h2
      · rename_i h1 h2
        split at h
        · rename_i q hq
          obtain ⟨k, ys⟩ := q
          obtain ⟨a, vs, e, _⟩ := vw_rep w r2 hq
          subst e
          exact (atm_noref r1 h1).elim
        · cases h
      · rename_i h1 h2
        split at h
        · rename_i q hq
          obtain ⟨k, ys⟩ := q
          obtain ⟨a, vs, e, _⟩ := vw_rep w r1 hq
          subst e
          exact (atm_noref r2 h2).elim
        · cases h
      · split at h
        · rename_i k xs l ys hx hy
          obtain ⟨a, vs, e1, q1, z1⟩ := vw_rep w r1 hx
          obtain ⟨a', vs', e2, q2, z2⟩ := vw_rep w r2 hy
          subst e1
          cases e2
          rcases z1 with ⟨rfl, z1⟩ | ⟨rfl, z1⟩ <;> rcases z2 with ⟨rfl, z2⟩ | ⟨rfl, z2⟩
          · rw [if_pos rfl] at h
            have e := I.tuple_inj z1 z2
            subst e
            exact eqLs_same (fun x y v b => eqN_same I w n x y v b) q1 q2 h
          · exact (apart_seq I z1 z2).elim
          · exact (apart_seq I z2 z1).elim
          · rw [if_pos rfl] at h
            have e := I.list_inj z1 z2
            subst e
            exact eqLs_same (fun x y v b => eqN_same I w n x y v b) q1 q2 h
        · cases h
theorem Inv.isTup {a : Addr} {xs : List V} (I : Inv X pins σ H s) (h : SqT X.K H a xs) : ∃ its : List Value, Vals xs its ∧ s.heap.IsTuple a its.toArray := by
  obtain ⟨its, r, p, _⟩ := I.tuple h
  exact ⟨its, r, p⟩
theorem Inv.isLst {a : Addr} {xs : List V} (I : Inv X pins σ H s) (h : SqL X.K H a xs) : ∃ its : List Value, Vals xs its ∧ s.heap.IsList a its.toArray := by
  obtain ⟨its, r, p, _⟩ := I.list h
  exact ⟨its, r, p.isList⟩
theorem eqA_at {B : Around} {v w : LV} {x y : V} {u1 u2 : Value} (r1 : Rep T Fz A v x) (r2 : Rep T Fz A w y) (h1 : atm v = true) (h2 : atm w = true) (v1 : RelV x u1) (v2 : RelV y u2) : SeqAt.EqAt B s u1 u2 (eqA v w) := by
  rcases atm_rep r1 h1 with ⟨rfl, rfl⟩ | ⟨b, rfl, rfl⟩ | ⟨b, rfl, rfl⟩ | ⟨b, rfl, rfl⟩ <;> rcases atm_rep r2 h2 with ⟨rfl, rfl⟩ | ⟨c, rfl, rfl⟩ | ⟨c, rfl, rfl⟩ | ⟨c, rfl, rfl⟩
  · obtain rfl := (show u1 = _ from v1); obtain rfl := (show u2 = _ from v2); exact SeqAt.EqAt.same _
  · obtain rfl := (show u1 = _ from v1); obtain rfl := (show u2 = _ from v2); exact SeqAt.EqAt.none_bool c
  · obtain rfl := (show u1 = _ from v1); obtain ⟨t', rfl⟩ := (show ∃ t, u2 = _ from v2); exact SeqAt.EqAt.none_int c t'
  · obtain rfl := (show u1 = _ from v1); obtain ⟨t', rfl⟩ := (show ∃ t, u2 = _ from v2); exact SeqAt.EqAt.none_str c t'
  · obtain rfl := (show u1 = _ from v1); obtain rfl := (show u2 = _ from v2); exact SeqAt.EqAt.bool_none b
  · obtain rfl := (show u1 = _ from v1); obtain rfl := (show u2 = _ from v2); exact SeqAt.EqAt.bool_bool b c
  · obtain rfl := (show u1 = _ from v1); obtain ⟨t', rfl⟩ := (show ∃ t, u2 = _ from v2); exact SeqAt.EqAt.bool_int b c t'
  · obtain rfl := (show u1 = _ from v1); obtain ⟨t', rfl⟩ := (show ∃ t, u2 = _ from v2); exact SeqAt.EqAt.bool_str b c t'
  · obtain ⟨t, rfl⟩ := (show ∃ t, u1 = _ from v1); obtain rfl := (show u2 = _ from v2); exact SeqAt.EqAt.int_none b t
  · obtain ⟨t, rfl⟩ := (show ∃ t, u1 = _ from v1); obtain rfl := (show u2 = _ from v2); exact SeqAt.EqAt.int_bool b t c
  · obtain ⟨t, rfl⟩ := (show ∃ t, u1 = _ from v1); obtain ⟨t', rfl⟩ := (show ∃ t, u2 = _ from v2); exact SeqAt.EqAt.int_int b t c t'
  · obtain ⟨t, rfl⟩ := (show ∃ t, u1 = _ from v1); obtain ⟨t', rfl⟩ := (show ∃ t, u2 = _ from v2); exact SeqAt.EqAt.int_str b t c t'
  · obtain ⟨t, rfl⟩ := (show ∃ t, u1 = _ from v1); obtain rfl := (show u2 = _ from v2); exact SeqAt.EqAt.str_none b t
  · obtain ⟨t, rfl⟩ := (show ∃ t, u1 = _ from v1); obtain rfl := (show u2 = _ from v2); exact SeqAt.EqAt.str_bool b t c
  · obtain ⟨t, rfl⟩ := (show ∃ t, u1 = _ from v1); obtain ⟨t', rfl⟩ := (show ∃ t, u2 = _ from v2); exact SeqAt.EqAt.str_int b t c t'
  · obtain ⟨t, rfl⟩ := (show ∃ t, u1 = _ from v1); obtain ⟨t', rfl⟩ := (show ∃ t, u2 = _ from v2); exact SeqAt.EqAt.str_str b t c t'
theorem eqSeq_at {B : Around} {w' : LV} {y : V} {u2 : Value} {a : Addr} {vs : List V} {k : Bool} (I : Inv X pins σ H s) (hu : B.units < cLine) (z : (k = true ∧ SqT X.K H a vs) ∨ (k = false ∧ SqL X.K H a vs)) (r2 : Rep T Fz A w' y) (h2 : atm w' = true) (v2 : RelV y u2) :
    SeqAt.EqAt B s (.ref a) u2 false ∧ SeqAt.EqAt B s u2 (.ref a) false ∧ SeqAt.RcAt B s (.ref a) u2 false ∧ SeqAt.RcAt B s u2 (.ref a) false ∧ SeqAt.RcNeAt B s (.ref a) u2 true ∧ SeqAt.RcNeAt B s u2 (.ref a) true := by
  rcases atm_rep r2 h2 with ⟨rfl, rfl⟩ | ⟨c, rfl, rfl⟩ | ⟨c, rfl, rfl⟩ | ⟨c, rfl, rfl⟩
  · obtain rfl := (show u2 = _ from v2)
    rcases z with ⟨_, z⟩ | ⟨_, z⟩
    · obtain ⟨its, _, h⟩ := Inv.isTup I z; exact ⟨.tuple_none h hu, .none_tuple h hu, .tuple_none h hu, .none_tuple h hu, .tuple_none h hu, .none_tuple h hu⟩
    · obtain ⟨its, _, h⟩ := Inv.isLst I z; exact ⟨.list_none h hu, .none_list h hu, .list_none h hu, .none_list h hu, .list_none h hu, .none_list h hu⟩
  · obtain rfl := (show u2 = _ from v2)
    rcases z with ⟨_, z⟩ | ⟨_, z⟩
    · obtain ⟨its, _, h⟩ := Inv.isTup I z; exact ⟨.tuple_bool _ h hu, .bool_tuple _ h hu, .tuple_bool _ h hu, .bool_tuple _ h hu, .tuple_bool _ h hu, .bool_tuple _ h hu⟩
    · obtain ⟨its, _, h⟩ := Inv.isLst I z; exact ⟨.list_bool _ h hu, .bool_list _ h hu, .list_bool _ h hu, .bool_list _ h hu, .list_bool _ h hu, .bool_list _ h hu⟩
  · obtain ⟨t, rfl⟩ := (show ∃ t, u2 = _ from v2)
    rcases z with ⟨_, z⟩ | ⟨_, z⟩
    · obtain ⟨its, _, h⟩ := Inv.isTup I z; exact ⟨.tuple_int _ _ h hu, .int_tuple _ _ h hu, .tuple_int _ _ h hu, .int_tuple _ _ h hu, .tuple_int _ _ h hu, .int_tuple _ _ h hu⟩
    · obtain ⟨its, _, h⟩ := Inv.isLst I z; exact ⟨.list_int _ _ h hu, .int_list _ _ h hu, .list_int _ _ h hu, .int_list _ _ h hu, .list_int _ _ h hu, .int_list _ _ h hu⟩
  · obtain ⟨t, rfl⟩ := (show ∃ t, u2 = _ from v2)
    rcases z with ⟨_, z⟩ | ⟨_, z⟩
    · obtain ⟨its, _, h⟩ := Inv.isTup I z; exact ⟨.tuple_str _ _ h hu, .str_tuple _ _ h hu, .tuple_str _ _ h hu, .str_tuple _ _ h hu, .tuple_str _ _ h hu, .str_tuple _ _ h hu⟩
    · obtain ⟨its, _, h⟩ := Inv.isLst I z; exact ⟨.list_str _ _ h hu, .str_list _ _ h hu, .list_str _ _ h hu, .str_list _ _ h hu, .list_str _ _ h hu, .str_list _ _ h hu⟩
theorem seq_eq {B : Around} {n : Nat} {xs ys : List LV} {vs ws : List V} {its its' : List Value} {b : Bool} (q1 : Reps T Fz A xs vs) (q2 : Reps T Fz A ys ws) (e1 : Vals vs its) (e2 : Vals ws its') (h : eqLs (eqN n st) xs ys = some b)
    (ih : ∀ (x y : LV) (v w : V) (u1 u2 : Value) (b : Bool), Rep T Fz A x v → Rep T Fz A y w → RelV v u1 → RelV w u2 → eqN n st x y = some b → SeqAt.EqAt B s u1 u2 b) :
    ∃ e : Nat → Bool, (∀ (j : Nat) (h1 : j < its.toArray.size) (h2 : j < its'.toArray.size), SeqAt.EqAt B s its.toArray[j] its'.toArray[j] (e j)) ∧ b = ((List.range (min its.toArray.size its'.toArray.size)).all e && its.toArray.size == its'.toArray.size) := by
  obtain ⟨e, h1, h2⟩ := eqLs_spec h
  refine ⟨e, fun j j1 j2 => ?_, ?_⟩
  · have j1' : j < its.length := by simpa using j1
    have j2' : j < its'.length := by simpa using j2
    have l1 := q1.length; have l2 := q2.length; have l3 := e1.length; have l4 := e2.length
    obtain ⟨x1, hx1, rx⟩ := q1.get (i := j) (a := xs[j]'(by omega)) (by simp)
    obtain ⟨y1, hy1, ry⟩ := q2.get (i := j) (a := ys[j]'(by omega)) (by simp)
    obtain ⟨u1, hu1, ru1⟩ := e1.get hx1
    obtain ⟨u2, hu2, ru2⟩ := e2.get hy1
    have z1 : its.toArray[j] = u1 := by
      rw [List.getElem_toArray]; exact (List.getElem?_eq_some_iff.mp hu1).2
    have z2 : its'.toArray[j] = u2 := by
      rw [List.getElem_toArray]; exact (List.getElem?_eq_some_iff.mp hu2).2
    rw [z1, z2]
    exact ih _ _ _ _ _ _ _ rx ry ru1 ru2 (h1 j _ _ (by simp) (by simp))
  · simp only [List.size_toArray]
    rw [← e1.length, ← e2.length, ← q1.length, ← q2.length]
    exact h2
theorem eqN_at (I : Inv X pins σ H s) (w : Wd T H Fz A st) : ∀ (n : Nat) (B : Around), B.units + n < cLine → ∀ (x y : LV) (v v' : V) (u1 u2 : Value) (b : Bool), Rep T Fz A x v → Rep T Fz A y v' → RelV v u1 → RelV v' u2 → eqN n st x y = some b → SeqAt.EqAt B s u1 u2 b
  | 0, _, _, _, _, _, _, _, _, _, _, _, _, _, h => by cases h
  | n + 1, B, hu, x, y, v, v', u1, u2, b, r1, r2, v1, v2, h => by
    by_cases hsame : u1 = u2
    · subst hsame
      have e := v1.inj v2
      subst e
      rw [eqN_same I w (n + 1) x y v b r1 r2 h]
      exact SeqAt.EqAt.same _
    · unfold eqN at h
      split at h
      · rename_i hs
        exfalso
        unfold sameOb at hs
        split at hs
        · rename_i r q
          have e : r = q := by simpa using hs
          subst e
          cases r1 with
          | ob a1 =>
            cases r2 with
            | ob a2 =>
              rw [a1] at a2; cases a2
              obtain rfl := (show u1 = _ from v1)
              obtain rfl := (show u2 = _ from v2)
              exact hsame rfl
        · cases hs
      · unfold eqS at h
        split at h
        · rename_i h1 h2; cases h; exact eqA_at r1 r2 h1 h2 v1 v2
        · rename_i h1 h2
          split at h
          · rename_i q hq
            cases h
            obtain ⟨k, ys⟩ := q
            obtain ⟨a, vs, e, _, z⟩ := vw_rep w r2 hq
            subst e
            obtain rfl := (show u2 = _ from v2)
            exact (eqSeq_at I (by omega) z r1 h1 v1).2.1
          · cases h
        · rename_i h1 h2
          split at h
          · rename_i q hq
            cases h
            obtain ⟨k, ys⟩ := q
            obtain ⟨a, vs, e, _, z⟩ := vw_rep w r1 hq
            subst e
            obtain rfl := (show u1 = _ from v1)
            exact (eqSeq_at I (by omega) z r2 h2 v2).1
          · cases h
        · split at h
          · rename_i k xs l ys hx hy
            obtain ⟨a, vs, e1, q1, z1⟩ := vw_rep w r1 hx
            obtain ⟨a', vs', e2, q2, z2⟩ := vw_rep w r2 hy
            subst e1; subst e2
            obtain rfl := (show u1 = _ from v1)
            obtain rfl := (show u2 = _ from v2)
            have ne : a ≠ a' := fun z => hsame (by rw [z])
            have hu0 : B.units < cLine := by omega
            have ih := eqN_at I w n B.in1 (by show B.units + 1 + n < cLine; omega)
            rcases z1 with ⟨rfl, z1⟩ | ⟨rfl, z1⟩ <;> rcases z2 with ⟨rfl, z2⟩ | ⟨rfl, z2⟩
            · rw [if_pos rfl] at h
              obtain ⟨its, p1, t1⟩ := Inv.isTup I z1
              obtain ⟨its', p2, t2⟩ := Inv.isTup I z2
              obtain ⟨e, he, hb⟩ := seq_eq q1 q2 p1 p2 h ih
              subst hb
              exact .of_refs ne (.tuples t1 t2 hu0 he)
            · rw [if_neg (by decide)] at h
              cases h
              obtain ⟨its, p1, t1⟩ := Inv.isTup I z1
              obtain ⟨its', p2, t2⟩ := Inv.isLst I z2
              exact .of_refs ne (.tuple_list t1 t2 hu0)
            · rw [if_neg (by decide)] at h
              cases h
              obtain ⟨its, p1, t1⟩ := Inv.isLst I z1
              obtain ⟨its', p2, t2⟩ := Inv.isTup I z2
              exact .of_refs ne (.list_tuple t1 t2 hu0)
            · rw [if_pos rfl] at h
              obtain ⟨its, p1, t1⟩ := Inv.isLst I z1
              obtain ⟨its', p2, t2⟩ := Inv.isLst I z2
              obtain ⟨e, he, hb⟩ := seq_eq q1 q2 p1 p2 h ih
              subst hb
              by_cases hz : its.toArray.size = its'.toArray.size
              · have q := SeqAt.RcAt.lists t1 t2 hz hu0 he
                rw [show ((List.range (min its.toArray.size its'.toArray.size)).all e && its.toArray.size == its'.toArray.size) = (List.range its.toArray.size).all e by rw [hz]; simp]
                exact .of_refs ne q
              · rw [show ((List.range (min its.toArray.size its'.toArray.size)).all e && its.toArray.size == its'.toArray.size) = false by rw [Bool.and_eq_false_iff]; right; simpa using hz]
                exact .of_refs ne (.lists_lengths t1 t2 (by simpa using hz) hu0)
          · cases h
theorem eqA_rc {B : Around} {v w : LV} {x y : V} {u1 u2 : Value} (r1 : Rep T Fz A v x) (r2 : Rep T Fz A w y) (h1 : atm v = true) (h2 : atm w = true) (v1 : RelV x u1) (v2 : RelV y u2) : SeqAt.RcAt B s u1 u2 (eqA v w) ∧ SeqAt.RcNeAt B s u1 u2 (!eqA v w) := by
  rcases atm_rep r1 h1 with ⟨rfl, rfl⟩ | ⟨b, rfl, rfl⟩ | ⟨b, rfl, rfl⟩ | ⟨b, rfl, rfl⟩ <;> rcases atm_rep r2 h2 with ⟨rfl, rfl⟩ | ⟨c, rfl, rfl⟩ | ⟨c, rfl, rfl⟩ | ⟨c, rfl, rfl⟩
  · obtain rfl := (show u1 = _ from v1); obtain rfl := (show u2 = _ from v2); exact ⟨SeqAt.RcAt.none_none, SeqAt.RcNeAt.none_none⟩
  · obtain rfl := (show u1 = _ from v1); obtain rfl := (show u2 = _ from v2); exact ⟨SeqAt.RcAt.none_bool c, SeqAt.RcNeAt.none_bool c⟩
  · obtain rfl := (show u1 = _ from v1); obtain ⟨t', rfl⟩ := (show ∃ t, u2 = _ from v2); exact ⟨SeqAt.RcAt.none_int c t', SeqAt.RcNeAt.none_int c t'⟩
  · obtain rfl := (show u1 = _ from v1); obtain ⟨t', rfl⟩ := (show ∃ t, u2 = _ from v2); exact ⟨SeqAt.RcAt.none_str c t', SeqAt.RcNeAt.none_str c t'⟩
  · obtain rfl := (show u1 = _ from v1); obtain rfl := (show u2 = _ from v2); exact ⟨SeqAt.RcAt.bool_none b, SeqAt.RcNeAt.bool_none b⟩
  · obtain rfl := (show u1 = _ from v1); obtain rfl := (show u2 = _ from v2); exact ⟨SeqAt.RcAt.bool_bool b c, SeqAt.RcNeAt.bool_bool b c⟩
  · obtain rfl := (show u1 = _ from v1); obtain ⟨t', rfl⟩ := (show ∃ t, u2 = _ from v2); exact ⟨SeqAt.RcAt.bool_int b c t', SeqAt.RcNeAt.bool_int b c t'⟩
  · obtain rfl := (show u1 = _ from v1); obtain ⟨t', rfl⟩ := (show ∃ t, u2 = _ from v2); exact ⟨SeqAt.RcAt.bool_str b c t', SeqAt.RcNeAt.bool_str b c t'⟩
  · obtain ⟨t, rfl⟩ := (show ∃ t, u1 = _ from v1); obtain rfl := (show u2 = _ from v2); exact ⟨SeqAt.RcAt.int_none b t, SeqAt.RcNeAt.int_none b t⟩
  · obtain ⟨t, rfl⟩ := (show ∃ t, u1 = _ from v1); obtain rfl := (show u2 = _ from v2); exact ⟨SeqAt.RcAt.int_bool b t c, SeqAt.RcNeAt.int_bool b t c⟩
  · obtain ⟨t, rfl⟩ := (show ∃ t, u1 = _ from v1); obtain ⟨t', rfl⟩ := (show ∃ t, u2 = _ from v2); exact ⟨SeqAt.RcAt.int_int b t c t', SeqAt.RcNeAt.int_int b t c t'⟩
  · obtain ⟨t, rfl⟩ := (show ∃ t, u1 = _ from v1); obtain ⟨t', rfl⟩ := (show ∃ t, u2 = _ from v2); exact ⟨SeqAt.RcAt.int_str b t c t', SeqAt.RcNeAt.int_str b t c t'⟩
  · obtain ⟨t, rfl⟩ := (show ∃ t, u1 = _ from v1); obtain rfl := (show u2 = _ from v2); exact ⟨SeqAt.RcAt.str_none b t, SeqAt.RcNeAt.str_none b t⟩
  · obtain ⟨t, rfl⟩ := (show ∃ t, u1 = _ from v1); obtain rfl := (show u2 = _ from v2); exact ⟨SeqAt.RcAt.str_bool b t c, SeqAt.RcNeAt.str_bool b t c⟩
  · obtain ⟨t, rfl⟩ := (show ∃ t, u1 = _ from v1); obtain ⟨t', rfl⟩ := (show ∃ t, u2 = _ from v2); exact ⟨SeqAt.RcAt.str_int b t c t', SeqAt.RcNeAt.str_int b t c t'⟩
  · obtain ⟨t, rfl⟩ := (show ∃ t, u1 = _ from v1); obtain ⟨t', rfl⟩ := (show ∃ t, u2 = _ from v2); exact ⟨SeqAt.RcAt.str_str b t c t', SeqAt.RcNeAt.str_str b t c t'⟩
theorem eqS_rc (I : Inv X pins σ H s) (w : Wd T H Fz A st) (n : Nat) (B : Around) (hu : B.units + (n + 1) < cLine) {x y : LV} {v v' : V} {u1 u2 : Value} {b : Bool} (r1 : Rep T Fz A x v) (r2 : Rep T Fz A y v') (v1 : RelV v u1) (v2 : RelV v' u2) (h : eqS (eqN n st) st x y = some b) :
    SeqAt.RcAt B s u1 u2 b ∧ SeqAt.RcNeAt B s u1 u2 (!b) := by
  unfold eqS at h
  split at h
  · rename_i h1 h2; cases h; exact eqA_rc r1 r2 h1 h2 v1 v2
  · rename_i h1 h2
    split at h
    · rename_i q hq
      cases h
      obtain ⟨k, ys⟩ := q
      obtain ⟨a, vs, e, _, z⟩ := vw_rep w r2 hq
      subst e
      obtain rfl := (show u2 = _ from v2)
      have q := eqSeq_at I (B := B) (by omega) z r1 h1 v1
      exact ⟨q.2.2.2.1, q.2.2.2.2.2⟩
    · cases h
  · rename_i h1 h2
    split at h
    · rename_i q hq
      cases h
      obtain ⟨k, ys⟩ := q
      obtain ⟨a, vs, e, _, z⟩ := vw_rep w r1 hq
      subst e
      obtain rfl := (show u1 = _ from v1)
      have q := eqSeq_at I (B := B) (by omega) z r2 h2 v2
      exact ⟨q.2.2.1, q.2.2.2.2.1⟩
    · cases h
  · split at h
    · rename_i k xs l ys hx hy
      obtain ⟨a, vs, e1, q1, z1⟩ := vw_rep w r1 hx
      obtain ⟨a', vs', e2, q2, z2⟩ := vw_rep w r2 hy
      subst e1; subst e2
      obtain rfl := (show u1 = _ from v1)
      obtain rfl := (show u2 = _ from v2)
      have hu0 : B.units < cLine := by omega
      have ih := eqN_at I w n B.in1 (by show B.units + 1 + n < cLine; omega)
      rcases z1 with ⟨rfl, z1⟩ | ⟨rfl, z1⟩ <;> rcases z2 with ⟨rfl, z2⟩ | ⟨rfl, z2⟩
      · rw [if_pos rfl] at h
        obtain ⟨its, p1, t1⟩ := Inv.isTup I z1
        obtain ⟨its', p2, t2⟩ := Inv.isTup I z2
        obtain ⟨e, he, hb⟩ := seq_eq q1 q2 p1 p2 h ih
        subst hb
        exact ⟨.tuples t1 t2 hu0 he, .tuples t1 t2 hu0 he⟩
      · rw [if_neg (by decide)] at h
        cases h
        obtain ⟨its, p1, t1⟩ := Inv.isTup I z1
        obtain ⟨its', p2, t2⟩ := Inv.isLst I z2
        exact ⟨.tuple_list t1 t2 hu0, .tuple_list t1 t2 hu0⟩
      · rw [if_neg (by decide)] at h
        cases h
        obtain ⟨its, p1, t1⟩ := Inv.isLst I z1
        obtain ⟨its', p2, t2⟩ := Inv.isTup I z2
        exact ⟨.list_tuple t1 t2 hu0, .list_tuple t1 t2 hu0⟩
      · rw [if_pos rfl] at h
        obtain ⟨its, p1, t1⟩ := Inv.isLst I z1
        obtain ⟨its', p2, t2⟩ := Inv.isLst I z2
        obtain ⟨e, he, hb⟩ := seq_eq q1 q2 p1 p2 h ih
        subst hb
        by_cases hz : its.toArray.size = its'.toArray.size
        · have q := SeqAt.RcAt.lists t1 t2 hz hu0 he
          have q' := SeqAt.RcNeAt.lists t1 t2 hz hu0 he
          rw [show ((List.range (min its.toArray.size its'.toArray.size)).all e && its.toArray.size == its'.toArray.size) = (List.range its.toArray.size).all e by rw [hz]; simp]
          exact ⟨q, q'⟩
        · rw [show ((List.range (min its.toArray.size its'.toArray.size)).all e && its.toArray.size == its'.toArray.size) = false by rw [Bool.and_eq_false_iff]; right; simpa using hz]
          exact ⟨.lists_lengths t1 t2 (by simpa using hz) hu0, .lists_lengths t1 t2 (by simpa using hz) hu0⟩
    · cases h
end
section
variable {X : Cx} {T : Tx X.K} {W : WX}
/-- == of data -/
theorem ov_eq (hu : X.A.units + 64 < cLine) : OpV T W (compareOp .Eq) oEq := fun pins s σ H Fz A st v1 v2 x y u1 u2 Q I w r1 r2 p1 p2 g => by
  unfold oEq at g
  split at g
  · rename_i b hb
    exact (eqS_rc I w 20 X.A (by omega) p1 p2 r1 r2 hb).1 _ _ _ _ ⟨.bl b, H, I, rfl, g H Fz A (Same.refl _) (Ap.refl _) w _ (.bl b)⟩
  · exact g.elim
theorem ov_ne (hu : X.A.units + 64 < cLine) : OpV T W (compareOp .NotEq) oNe := fun pins s σ H Fz A st v1 v2 x y u1 u2 Q I w r1 r2 p1 p2 g => by
  unfold oNe at g
  split at g
  · rename_i b hb
    exact (eqS_rc I w 20 X.A (by omega) p1 p2 r1 r2 hb).2 _ _ _ _ ⟨.bl (!b), H, I, rfl, g H Fz A (Same.refl _) (Ap.refl _) w _ (.bl _)⟩
  · exact g.elim

/-! ### ints -/
def oI (f : Int → Int → Option LV) (v w : LV) (st : Sto) : Rz LV := match v, w with
  | .int i, .int j => match f i j with
    | some x => some (.ok x, st)
    | .none => .none
  | _, _ => .none
theorem rep_int {K : PySem.W.Frag} {T : Tx K} {Fz : Hp} {A : Ad} {i : Int} {x : V} (r : Rep T Fz A (.int i) x) : x = .int i := by cases r; rfl
/-- a rule of ints -/
theorem ov_int {f : Value → Value → Sem Value} {F : Int → Int → Option LV} (C : Int → Int → Prop) (g : Int → Int → V) (h : OpR X f (rI C g)) (hF : ∀ i j v, F i j = some v → C i j ∧ ∀ Fz A, Rep T Fz A v (g i j)) : OpV T W f (oI F) := .of h fun {H Fz A st v1 v2 x y Q ex} w p1 p2 q => by
  unfold oI at q
  split at q
  · rename_i i j
    split at q
    · rename_i v hv
      obtain ⟨hc, hr⟩ := hF i j v hv
      exact ⟨i, j, rep_int p1, rep_int p2, hc, q H Fz A (Same.refl _) (Ap.refl _) w _ (hr _ _)⟩
    · exact q.elim
  · exact q.elim
theorem ov_int0 {f : Value → Value → Sem Value} {F : Int → Int → LV} (g : Int → Int → V) (h : OpR X f (rI0 g)) (hF : ∀ i j Fz A, Rep T Fz A (F i j) (g i j)) : OpV T W f (oI fun i j => some (F i j)) := .of h fun {H Fz A st v1 v2 x y Q ex} w p1 p2 q => by
  unfold oI at q
  split at q
  · rename_i i j
    exact ⟨i, j, rep_int p1, rep_int p2, q H Fz A (Same.refl _) (Ap.refl _) w _ (hF _ _ _ _)⟩
  · exact q.elim
def oAdd := oI fun i j => some (.int (i + j))
def oSub := oI fun i j => some (.int (i - j))
def mulOk (i j : Int) : Bool := decide (i.natAbs < 2 ^ 64) || decide (j.natAbs < 2 ^ 64) || decide (i.natAbs.log2 + j.natAbs.log2 < 1000000)
def oMul := oI fun i j => if mulOk i j = true then some (.int (i * j)) else .none
def divOk (j : Int) : Bool := decide (j ≠ 0) && decide (j.natAbs.log2 < 9000)
def oDiv := oI fun i j => if divOk j = true then some (.int (i.fdiv j)) else .none
def oMod := oI fun i j => if j ≠ 0 then some (.int (i.fmod j)) else .none
def powOk (i j : Int) : Bool := decide (0 ≤ j) && decide (j ≤ 1000) && decide (i.natAbs < 2 ^ 64)
def oPow := oI fun i j => if powOk i j = true then some (.int (i ^ j.toNat)) else .none
def oLt := oI fun i j => some (.bl (decide (i < j)))
def oLe := oI fun i j => some (.bl (decide (i ≤ j)))
def oGt := oI fun i j => some (.bl (decide (j < i)))
def oGe := oI fun i j => some (.bl (decide (j ≤ i)))
theorem ov_add : OpV T W (binaryOp .Add) oAdd := ov_int0 _ op_add fun _ _ _ _ => .int _
theorem ov_sub : OpV T W (binaryOp .Sub) oSub := ov_int0 _ op_sub fun _ _ _ _ => .int _
theorem ov_lt : OpV T W (compareOp .Lt) oLt := ov_int0 _ op_lt fun _ _ _ _ => .bl _
theorem ov_le : OpV T W (compareOp .LtE) oLe := ov_int0 _ op_le fun _ _ _ _ => .bl _
theorem ov_gt : OpV T W (compareOp .Gt) oGt := ov_int0 _ op_gt fun _ _ _ _ => .bl _
theorem ov_ge : OpV T W (compareOp .GtE) oGe := ov_int0 _ op_ge fun _ _ _ _ => .bl _
theorem op_mulX : OpR X (binaryOp .Mult) (rI (fun i j => IntMulOk i j) fun i j => .int (i * j)) := opI fun _ _ _ _ _ _ _ hc q => mul_int q hc
theorem lt64 {i : Int} (h : i.natAbs < 2 ^ 64) : -(2 ^ 64) < i ∧ i < 2 ^ 64 := by
  have : (2 : Nat) ^ 64 = 18446744073709551616 := by decide
  have : (2 : Int) ^ 64 = 18446744073709551616 := by decide
  omega
theorem ov_mul : OpV T W (binaryOp .Mult) oMul := ov_int _ _ op_mulX fun i j v h => by
  split at h
  · rename_i hc
    cases h
    refine ⟨?_, fun _ _ => .int _⟩
    unfold mulOk at hc
    simp only [Bool.or_eq_true, decide_eq_true_eq] at hc
    rcases hc with (hc | hc) | hc
    · exact CMul.ok (.inl (lt64 hc))
    · exact CMul.ok (.inr (lt64 hc))
    · exact CMulW.ok hc
  · cases h
theorem op_fdivX : OpR X (binaryOp .FloorDiv) (rI (fun _ j => j ≠ 0 ∧ j.natAbs.log2 < 9000) fun i j => .int (i.fdiv j)) := opI fun _ _ _ _ _ _ _ hc q => floordiv_int hc.1 q (.inl (PyProof.noPylong_of_log2 hc.2))
theorem ov_div : OpV T W (binaryOp .FloorDiv) oDiv := ov_int _ _ op_fdivX fun i j v h => by
  split at h
  · rename_i hc
    cases h
    unfold divOk at hc
    simp only [Bool.and_eq_true, decide_eq_true_eq] at hc
    exact ⟨hc, fun _ _ => .int _⟩
  · cases h
theorem ov_mod : OpV T W (binaryOp .Mod) oMod := ov_int _ _ op_modN fun i j v h => by
  split at h
  · rename_i hc; cases h; exact ⟨hc, fun _ _ => .int _⟩
  · cases h
theorem ov_pow : OpV T W (binaryOp .Pow) oPow := ov_int _ _ op_pow fun i j v h => by
  split at h
  · rename_i hc
    cases h
    unfold powOk at hc
    simp only [Bool.and_eq_true, decide_eq_true_eq] at hc
    exact ⟨⟨hc.1.1, by omega, hc.2⟩, fun _ _ => .int _⟩
  · cases h
def oNeg (v : LV) (st : Sto) : Rz LV := match v with
  | .int i => some (.ok (.int (-i)), st)
  | _ => .none
theorem ov_neg : UnV T W (unaryOp .USub) oNeg := .of un_neg fun {H Fz A st v1 x Q ex} w p1 q => by
  unfold oNeg at q
  split at q
  · exact ⟨_, rep_int p1, q H Fz A (Same.refl _) (Ap.refl _) w _ (.int _)⟩
  · exact q.elim
/-- two rules for one operator: the second where the first has no answer -/
def orO (F G : LV → LV → Sto → Rz LV) (v w : LV) (st : Sto) : Rz LV := match F v w st with
  | .none => G v w st
  | r => r
theorem OpV.or {f : Value → Value → Sem Value} {F G : LV → LV → Sto → Rz LV} (h1 : OpV T W f F) (h2 : OpV T W f G) : OpV T W f (orO F G) := fun pins s σ H Fz A st v1 v2 x y u1 u2 Q I w r1 r2 p1 p2 g => by
  unfold orO at g
  split at g
  · exact h2 pins s σ H Fz A st v1 v2 x y u1 u2 Q I w r1 r2 p1 p2 g
  · exact h1 pins s σ H Fz A st v1 v2 x y u1 u2 Q I w r1 r2 p1 p2 g
def orU (F G : LV → Sto → Rz LV) (v : LV) (st : Sto) : Rz LV := match F v st with
  | .none => G v st
  | r => r
theorem UnV.or {f : Value → Sem Value} {F G : LV → Sto → Rz LV} (h1 : UnV T W f F) (h2 : UnV T W f G) : UnV T W f (orU F G) := fun pins s σ H Fz A st v1 x u1 Q I w r1 p1 g => by
  unfold orU at g
  split at g
  · exact h2 pins s σ H Fz A st v1 x u1 Q I w r1 p1 g
  · exact h1 pins s σ H Fz A st v1 x u1 Q I w r1 p1 g

/-! ### is -/
def oIs (k : Bool) (v w : LV) (st : Sto) : Rz LV := match v, w with
  | .non, .non => some (.ok (.bl k), st)
  | .bl a, .bl b => some (.ok (.bl ((a == b) == k)), st)
  | .int _, .non => some (.ok (.bl (!k)), st)
  | .bl _, .non => some (.ok (.bl (!k)), st)
  | .str _, .non => some (.ok (.bl (!k)), st)
  | .tup _, .non => some (.ok (.bl (!k)), st)
  | .lst _, .non => some (.ok (.bl (!k)), st)
  | .dct _, .non => some (.ok (.bl (!k)), st)
  | .ins _ _, .non => some (.ok (.bl (!k)), st)
  | .exc _ _, .non => some (.ok (.bl (!k)), st)
  | .ob _, .non => some (.ok (.bl (!k)), st)
  | _, _ => .none
theorem ov_is : OpV T W (compareOp .Is) (oIs true) := .of (op_isN.or op_is_bl) fun {H Fz A st v1 v2 x y Q ex} w p1 p2 q => by
  unfold oIs at q
  split at q
  case h_2 =>
    cases p1; cases p2
    refine .inr ⟨_, _, rfl, rfl, ?_⟩
    rename_i a b
    have e : decide (a = b) = ((a == b) == true) := by cases a <;> cases b <;> rfl
    rw [e]; exact q H Fz A (Same.refl _) (Ap.refl _) w _ (.bl _)
  case h_12 => exact q.elim
  all_goals (cases p2; cases p1 <;> exact .inl ⟨rfl, q H Fz A (Same.refl _) (Ap.refl _) w _ (.bl _)⟩)
theorem ov_isnot : OpV T W (compareOp .IsNot) (oIs false) := .of (op_notN.or op_isnot_bl) fun {H Fz A st v1 v2 x y Q ex} w p1 p2 q => by
  unfold oIs at q
  split at q
  case h_2 =>
    cases p1; cases p2
    refine .inr ⟨_, _, rfl, rfl, ?_⟩
    rename_i a b
    have e : (!decide (a = b)) = ((a == b) == false) := by cases a <;> cases b <;> rfl
    rw [e]; exact q H Fz A (Same.refl _) (Ap.refl _) w _ (.bl _)
  case h_12 => exact q.elim
  all_goals (cases p2; cases p1 <;> exact .inl ⟨rfl, q H Fz A (Same.refl _) (Ap.refl _) w _ (.bl _)⟩)
end
end EL

set_option Elab.async false
set_option linter.all false
set_option maxRecDepth 100000
set_option maxHeartbeats 1000000
/-! EL5: items, stores, append, attributes, calls of defs, methods, classes made. -/
namespace EL
open PySem PySem.Spec PyProof.Rows L2

def Go.ok {K : PySem.W.Frag} {T : Tx K} {H Fz : Hp} {A : Ad} {st : Sto} {α : Type} {ok : Ok α} {ex : Xq} {v : α} (g : Go T Fz A ok ex (some (.ok v, st))) (w : Wd T H Fz A st) : ok v H Fz A st := g H Fz A (Same.refl _) (Ap.refl _) w
theorem GoS.nx {K : PySem.W.Frag} {T : Tx K} {W : WX} {D : Ends} {H Fz : Hp} {A : Ad} {st : Sto} {ls : Ls} {σ : L2.St} (g : GoS T W D Fz A (some (.nx ls, st))) (w : Wd T H Fz A st) (s : SR T Fz A ls σ) : D.nx σ H := g H Fz A σ (Same.refl _) (Ap.refl _) w s
section
variable {K : PySem.W.Frag} {T : Tx K} {Fz : Hp} {A : Ad}
theorem Reps.set : ∀ {v : List LV} {x : List V} {a : LV} {b : V} (j : Nat), Reps T Fz A v x → Rep T Fz A a b → Reps T Fz A (v.set j a) (x.set j b)
  | _, _, _, _, _, .nil, _ => .nil
  | _, _, _, _, 0, .cons _ r, q => .cons q r
  | _, _, _, _, j + 1, .cons h r, q => .cons h (Reps.set j r q)
theorem rep_ob {r : Nat} {x : V} (h : Rep T Fz A (.ob r) x) : ∃ a, x = .ref a ∧ A.l[r]? = some a := by cases h with | ob h => exact ⟨_, rfl, h⟩
theorem atI_reps {xs : List LV} {vs : List V} {i : Int} {v : LV} (r : Reps T Fz A xs vs) (h : atI xs i = some v) : ∃ x, atI vs i = some x ∧ Rep T Fz A v x := by
  unfold atI at h ⊢
  rw [← r.length]
  cases e : ixN xs.length i with
  | none => rw [e] at h; cases h
  | some j => rw [e] at h; exact r.get h
end

/-! ### items -/
def ixL (v u : LV) (st : Sto) : Rz LV := match u with
  | .int i => match v with
    | .str z => if z.length ≤ 16777216 then match atI z.cps.toList i with
        | some c => some (.ok (.str ⟨#[c]⟩), st)
        | .none => .none
      else .none
    | v => match vw st v with
      | some (_, xs) => match atI xs i with
        | some x => some (.ok x, st)
        | .none => .none
      | .none => .none
  | _ => .none
section
variable {X : Cx} {T : Tx X.K} {W : WX} {a b e o i : Expr} {es : List Expr} {fa fb fe fo fi : Ev} {fr : Av} {pos p pos' apos : Pos}
theorem ev_ix (ha : PE X a (tEv T W fa)) (hb : PE X b (tEv T W fb)) (hs : PlainIx b) : PE X (.Subscript a b pos) (tEv T W (eOp2 ixL fa fb)) := PE.imp (pe_ix ix_seq ha hb hs) fun σ H Q => by
  rintro ⟨ls, st, Fz, A, w, sr, g⟩
  refine tEv_q (tEv_seq w sr g) fun x H1 hh => ?_
  obtain ⟨v, F, B, st1, s1, p1, w1, sr1, r1, g1⟩ := hh
  refine tEv_q (tEv_seq w1 sr1 g1) fun y H2 hh => ?_
  obtain ⟨u, F2, B2, st2, s2, p2, w2, sr2, r2, g2⟩ := hh
  have r1' := r1.mono s2 p2
  unfold ixL at g2
  split at g2
  · rename_i k
    have ey := rep_int r2
    subst ey
    split at g2
    · rename_i z
      split at g2
      · rename_i hz
        split at g2
        · rename_i c hc
          have ex : x = .str z := by cases r1'; rfl
          subst ex
          exact .inr (.inr ⟨z, k, c, rfl, rfl, by rw [sizeLine_eq]; exact hz, hc, g2.ok w2 _ (.str _)⟩)
        · exact g2.elim
      · exact g2.elim
    · split at g2
      · rename_i kk xs hx
        split at g2
        · rename_i x' hx'
          obtain ⟨a', vs, e1, q1, z1⟩ := vw_rep w2 r1' hx
          subst e1
          obtain ⟨y', h1, h2⟩ := atI_reps q1 hx'
          rcases z1 with ⟨_, z1⟩ | ⟨_, z1⟩
          · exact .inr (.inl ⟨a', vs, k, y', rfl, rfl, z1, h1, g2.ok w2 _ h2⟩)
          · exact .inl ⟨a', vs, k, y', rfl, rfl, z1, h1, g2.ok w2 _ h2⟩
        · exact g2.elim
      · exact g2.elim
  · exact g2.elim

/-! ### o[i] = e of a changeable list -/
def sSetIx (e o i : Ev) : Sv := fun ls st => stE (e ls st) ls fun v st => stE (o ls st) ls fun ov st => stE (i ls st) ls fun iv st => match ov, iv with
  | .ob r, .int k => match st[r]? with
    | some (.lst xs) => match ixN xs.length k with
      | some j => some (.nx ls, st.set r (.lst (xs.set j v)))
      | .none => .none
    | _ => .none
  | _, _ => .none
theorem es_setIx {s : Stmt} (h : ∀ {t to ti : TE}, PE X e t → PE X o to → PE X i ti → PS X s (tAsg t (gSub to ti rSetL))) (he : PE X e (tEv T W fe)) (ho : PE X o (tEv T W fo)) (hi : PE X i (tEv T W fi)) : PS X s (tSv T W (sSetIx fe fo fi)) := PS.imp (h he ho hi) fun D σ H => by
  rintro ⟨ls, st, Fz, A, w, sr, g⟩
  refine tEv_q (tEv_st w sr g) fun x H1 hh => ?_
  obtain ⟨v, F, B, st1, s1, p1, w1, sr1, r1, g1⟩ := hh
  refine tEv_q (tEv_st w1 sr1 g1) fun y H2 hh => ?_
  obtain ⟨ov, F2, B2, st2, s2, p2, w2, sr2, r2, g2⟩ := hh
  refine tEv_q (tEv_st w2 sr2 g2) fun z H3 hh => ?_
  obtain ⟨iv, F3, B3, st3, s3, p3, w3, sr3, r3, g3⟩ := hh
  split at g3
  · rename_i r k
    split at g3
    · rename_i xs hx
      split at g3
      · rename_i j hj
        have ez := rep_int r3
        subst ez
        obtain ⟨a, ey, hA⟩ := rep_ob (r2.mono s3 p3)
        subst ey
        obtain ⟨vs, hv, rv⟩ := w3.mo r a _ hA hx
        have r1' := (r1.mono s2 p2).mono s3 p3
        have w4 := w3.set (o := .lst (vs.set j x)) (m' := .lst (xs.set j v)) hA hx rfl ⟨_, upd_same, rv.set j r1'⟩
        exact ⟨a, vs, k, j, rfl, rfl, hv, by rw [← rv.length]; exact hj, g3.nx w4 sr3⟩
      · exact g3.elim
    · exact g3.elim
  · exact g3.elim

/-! ### o.append(e) -/
def eApp (o e : Ev) : Ev := fun ls st => bnd (o ls st) fun ov st => match ov with
  | .ob r => match st[r]? with
    | some (.lst _) => bnd (e ls st) fun v st => match st[r]? with
      | some (.lst xs) => if xs.length < 16777216 then some (.ok .non, st.set r (.lst (xs ++ [v]))) else .none
      | _ => .none
    | _ => .none
  | _ => .none
theorem ev_app {m : Expr} (h : ∀ {to te : TE}, PE X o to → PE X e te → PE X m (tBM X.K "list" rAppend to (tCons te tNil))) (ho : PE X o (tEv T W fo)) (he : PE X e (tEv T W fe)) : PE X m (tEv T W (eApp fo fe)) := PE.imp (h ho he) fun σ H Q => by
  rintro ⟨ls, st, Fz, A, w, sr, g⟩
  refine tEv_q (tEv_seq w sr g) fun x H1 hh => ?_
  obtain ⟨ov, F, B, st1, s1, p1, w1, sr1, r1, g1⟩ := hh
  split at g1
  · rename_i r
    split at g1
    · rename_i xs0 hx0
      obtain ⟨a, ex, hA⟩ := rep_ob r1
      subst ex
      obtain ⟨vs0, hv0, _⟩ := w1.mo r a _ hA hx0
      refine ⟨.inl ⟨rfl, _, SqL.of hv0⟩, ?_⟩
      refine tEv_q (tEv_seq w1 sr1 g1) fun y H2 hh => ?_
      obtain ⟨v, F2, B2, st2, s2, p2, w2, sr2, r2, g2⟩ := hh
      split at g2
      · rename_i xs hx
        split at g2
        · rename_i hl
          have hA2 := p2.get hA
          obtain ⟨vs, hv, rv⟩ := w2.mo r a _ hA2 hx
          have w3 := w2.set (o := .lst (vs ++ [y])) (m' := .lst (xs ++ [v])) hA2 hx rfl ⟨_, upd_same, rv.append (.cons r2 .nil)⟩
          exact ⟨a, vs, y, rfl, rfl, hv, by rw [← rv.length, sizeLine_eq]; exact hl, g2.ok w3 _ .non⟩
        · exact g2.elim
      · exact g2.elim
    · exact g1.elim
  · exact g1.elim

/-! ### fields -/
def fieldL (f : Nat) (v : LV) (st : Sto) : Rz LV := match v with
  | .ins _ fs => match fs.lookup f with
    | some x => some (.ok x, st)
    | .none => .none
  | .exc _ fs => match fs.lookup f with
    | some x => some (.ok x, st)
    | .none => .none
  | .ob r => match st[r]? with
    | some (.ins _ fs) => match fs.lookup f with
      | some x => some (.ok x, st)
      | .none => .none
    | _ => .none
  | _ => .none
theorem look_mem {l : List (Nat × LV)} {f : Nat} {x : LV} (h : l.lookup f = some x) : (f, x) ∈ l := by
  induction l with
  | nil => cases h
  | cons p l ih =>
    obtain ⟨g, y⟩ := p
    rw [List.lookup_cons] at h
    by_cases e : f = g
    · subst e; simp at h; subst h; exact List.mem_cons_self
    · rw [show (f == g) = false by simpa using e] at h; exact List.mem_cons_of_mem _ (ih h)
theorem ev_attr {f : Nat} {fn : Str} (hf : fn = T.nm f) (he : PE X e (tEv T W fe)) (hb : attributeBase e fn X.env (eval e X.env) = eval e X.env := by rfl) : PE X (.Attribute e fn pos) (tEv T W (eOp1 (fieldL f) fe)) := by
  subst hf
  refine ⟨fun pins s σ H Q I h => ?_⟩
  obtain ⟨ls, st, Fz, A, w, sr, g⟩ := h
  refine attr_of hb (thn (he.run pins s σ H _ I (tEv_seq w sr g)) fun u s1 ⟨x, H1, I1, rx, q1⟩ => ?_)
  obtain ⟨v, F, B, st1, s1', p1, w1, sr1, r1, g1⟩ := q1
  have fin : ∀ {a dx : Addr} {fs : List (Nat × LV)} {vs : List (Str × V)} {c : Nat} {y : LV}, x = .ref a → H1 a = some (.ins (T.cls c) dx vs) → RepF T F B fs vs → (∀ p ∈ fs, T.fld c p.1 = true) → fs.lookup f = some y →
      (∀ z, Rep T F B y z → Q z H1) → wpAny (model X.prog X.w) X.A (getAttr u (T.nm f) true) (EP X pins σ Q) X.xe s1 := fun {a dx fs vs c y} ex ha rf hw hl hq => by
    subst ex
    obtain rfl : u = Value.ref a := rx
    obtain ⟨z, h1, h2⟩ := rf.look hl
    obtain ⟨cl, na⟩ := T.own c f (hw _ (look_mem hl))
    exact getattr_ok I1 ha cl na h1 fun u' s' I' r' => ⟨z, H1, I', r', hq z h2⟩
  unfold fieldL at g1
  split at g1
  · rename_i c fs
    split at g1
    · rename_i y hl
      cases r1 with
      | ins h r wf => exact fin rfl (w1.fz _ _ h) r wf hl fun z hz => g1.ok w1 z hz
    · exact g1.elim
  · rename_i c fs
    split at g1
    · rename_i y hl
      cases r1 with
      | @exc _ _ vs a d uo wo h ea hd xd r q =>
        obtain rfl : u = Value.ref a := rx
        obtain ⟨z, h1, h2⟩ := r.look hl
        obtain ⟨T1, hno⟩ := T.xown c f (q _ (look_mem hl))
        obtain ⟨ph, rfl, hp⟩ := ea
        obtain ⟨hph, _, _⟩ := (show ObjOk X.prog X.w H1 s1.heap a (.ext ph) from I1.hok a _ (w1.fz _ _ h))
        obtain ⟨oe, fv, hoe, hz, hdat⟩ := hp _ hph
        have hns : ∃ mA, s1.heap.Ns1 d mA ∧ ∀ f, RelO (vs.lookup f) (mA f) := by
          rcases xd with rfl | rfl
          · exact (show ObjOk X.prog X.w H1 s1.heap d (.xd vs) from I1.hok d _ (w1.fz _ _ hd))
          · exact (show ObjOk X.prog X.w H1 s1.heap d (exd d vs) from I1.hok d _ (w1.fz _ _ hd)).1
        obtain ⟨mA, hn, hr⟩ := hns
        obtain ⟨od, ho, hlk⟩ := lookIn_ns hn
        obtain ⟨u', hu, ru⟩ := RelO.some_of (v := z) (o := mA (T.nm f)) (by rw [← h1]; exact hr _)
        have J : PySem.W.InstAt s1.heap a oe (T.cls c) (some od) := ⟨hoe, hz.1, by unfold PySem.W.notCls; rw [hdat] <;> rfl, by rw [hz.2]; exact ho⟩
        exact HandSPX.exc_get I1.kIn J T1.ga T1.gg T1.exC (PySem.W.findObj_own T1.hdC hno rfl (by rw [hlk, hu])) (handed_of ru) ⟨z, H1, I1.tok _, ru, g1.ok w1 z h2⟩
      | exc0 h => cases hl
    · exact g1.elim
  · rename_i r
    split at g1
    · rename_i c fs hs
      split at g1
      · rename_i y hl
        obtain ⟨a, ex, hA⟩ := rep_ob r1
        obtain ⟨⟨dx, vs, hv, rf⟩, wf⟩ := w1.mo r a _ hA hs
        exact fin ex hv rf wf hl fun z hz => g1.ok w1 z hz
      · exact g1.elim
    · exact g1.elim
  · exact g1.elim

/-! ### o.f = e -/
def sSetAttr (ok : Nat → Bool) (f : Nat) (o e : Ev) : Sv := fun ls st => stE (e ls st) ls fun v st => stE (o ls st) ls fun ov st => match ov with
  | .ob r => match st[r]? with
    | some (.ins c fs) => if ok c = true ∧ fs.length < 900 then some (.nx ls, st.set r (.ins c (putL f v fs))) else .none
    | _ => .none
  | _ => .none
theorem putL_mem {f : Nat} {v : LV} {p : Nat × LV} : ∀ {l : List (Nat × LV)}, p ∈ putL f v l → p.1 = f ∨ p ∈ l
  | [], h => by simp [putL] at h; exact .inl (by rw [h])
  | (g, x) :: r, h => by
    unfold putL at h
    split at h
    · rename_i e
      rcases List.mem_cons.mp h with h | h
      · exact .inl (by rw [h]; exact e)
      · exact .inr (List.mem_cons_of_mem _ h)
    · rcases List.mem_cons.mp h with h | h
      · exact .inr (by rw [h]; exact List.mem_cons_self)
      · rcases putL_mem h with h | h
        · exact .inl h
        · exact .inr (List.mem_cons_of_mem _ h)
theorem es_setAttr {s : Stmt} {f : Nat} {ok : Nat → Bool} (hok : ∀ c, ok c = true → T.fld c f = true) (h : ∀ {to te : TE}, PE X o to → PE X e te → PS X s (sFld X.K to te (T.nm f))) (ho : PE X o (tEv T W fo)) (he : PE X e (tEv T W fe)) :
    PS X s (tSv T W (sSetAttr ok f fo fe)) := PS.imp (h ho he) fun D σ H => by
  rintro ⟨ls, st, Fz, A, w, sr, g⟩
  refine tEv_q (tEv_st w sr g) fun x H1 hh => ?_
  obtain ⟨v, F, B, st1, s1, p1, w1, sr1, r1, g1⟩ := hh
  refine tEv_q (tEv_st w1 sr1 g1) fun y H2 hh => ?_
  obtain ⟨ov, F2, B2, st2, s2, p2, w2, sr2, r2, g2⟩ := hh
  split at g2
  · rename_i r
    split at g2
    · rename_i c fs hs
      split at g2
      · rename_i hc
        obtain ⟨a, ey, hA⟩ := rep_ob r2
        subst ey
        obtain ⟨⟨dx, vs, hv, rf⟩, wf⟩ := w2.mo r a _ hA hs
        have hfl := hok c hc.1
        obtain ⟨cl, na⟩ := T.own c f hfl
        have w3 := w2.set (o := .ins (T.cls c) dx (putF (T.nm f) x vs)) (m' := .ins c (putL f v fs)) hA hs rfl ⟨⟨dx, _, upd_same, rf.put (r1.mono s2 p2)⟩, fun p hp => by
          rcases putL_mem hp with e | e
          · rw [e]; exact hfl
          · exact wf p e⟩
        exact ⟨a, T.cls c, dx, vs, rfl, hv, cl, na, by rw [← rf.length]; omega, g2.nx w3 sr2⟩
      · exact g2.elim
    · exact g2.elim
  · exact g2.elim

/-! ### defs called -/
def eCall (M : Mv) (r : Av) : Ev := fun ls st => bnd (r ls st) M
theorem tAv_len {H Fz : Hp} {A : Ad} {st : Sto} {β : Type} {f : Av} {ls : Ls} {σ : L2.St} {k : List LV → Sto → Rz β} {ok : Ok β} {n : Nat} (hl : ∀ ls st vs st', f ls st = some (.ok vs, st') → vs.length = n) (w : Wd T H Fz A st) (s : SR T Fz A ls σ) (g : Go T Fz A ok (exW W σ) (bnd (f ls st) k)) :
    tAv T W f σ H fun x H1 => ∃ v F B st1, Same Fz F ∧ Ap A B ∧ Wd T H1 F B st1 ∧ SR T F B ls σ ∧ Reps T F B v x ∧ v.length = n ∧ Go T F B ok (exW W σ) (k v st1) := by
  refine ⟨ls, st, Fz, A, w, s, ?_⟩
  cases e : f ls st with
  | none => rw [e] at g; exact g.elim
  | some y =>
    obtain ⟨z, st1⟩ := y
    rw [e] at g
    cases z with
    | ok v => exact fun H F B h1 h2 w' x r => ⟨v, F, B, st1, h1, h2, w', s.mono h1 h2, r, hl _ _ _ _ e, g.mono h1 h2⟩
    | ex c fs => exact g
theorem ev_call {x : Str} {k : Nat} {f : Addr} {fd : FuncData} {ps : List Str} {M : Mv} (F : FnOk X.prog X.w X.K X.mg X.base (L2.CX X.prog X.w) k f fd ps (spM T ps.length M)) (hr : Room k X.A) (hg : Gl X x) (hm : X.mg x = some (.ref f)) (hk : PySem.W.keepIn X.K (.ref f) = true)
    (hb : L2.Binds X.K fd ps []) (tk : Takes X W) (ha : EA X T W (e :: es) fr) (hn : (e :: es).length = ps.length := by rfl) (hdb : (x == ("__debug__" : Str)) = false := by decide) (he : starEach (e :: es) X.env = (false, eval e X.env) :: starEach es X.env := by rfl) (hpl : (backTo pos (starEach es X.env)).any (·.1) = false := by rfl) :
    PE X (.Call (.Name x p) (e :: es) [] pos) (tEv T W (eCall M fr)) := PE.imp (pe_callS F hr hg hm hk hb (fun σ => passAt tk σ) ha.pa hdb he hpl) fun σ H Q => by
  rintro ⟨ls, st, Fz, A, w, sr, g⟩
  refine tAv_q (tAv_len ha.len w sr g) fun xs H1 hh => ?_
  obtain ⟨vs, F, B, st1, s1, p1, w1, sr1, r1, hl, g1⟩ := hh
  exact ⟨by rw [← r1.length, hl, hn], vs, st1, F, B, w1, r1, g1⟩
end
end EL

set_option Elab.async false
set_option linter.all false
set_option maxRecDepth 100000
set_option maxHeartbeats 1000000
/-! EL6: calls with defaults and keywords, methods, classes made. -/
namespace EL
open PySem PySem.Spec PyProof.Rows L2

/-! ### how arguments come to parameters -/
/-- where a parameter's value stands: among the positional ones, the keywords' ones, the defaults -/
inductive Src where
  | p (j : Nat) | k (j : Nat) | d (j : Nat)
def pick1 {α : Type} (us its ws : List α) : Src → Option α
  | .p j => us[j]?
  | .k j => ws[j]?
  | .d j => its[j]?
def pick {α : Type} (us its ws : List α) : List Src → List α
  | [] => []
  | s :: r => match pick1 us its ws s with
    | some x => x :: pick us its ws r
    | .none => pick us its ws r
def Src.ok (n m l : Nat) : Src → Bool
  | .p j => decide (j < n)
  | .k j => decide (j < m)
  | .d j => decide (j < l)
theorem pick_len {α : Type} {us its ws : List α} : ∀ {ss : List Src}, ss.all (Src.ok us.length ws.length its.length) = true → (pick us its ws ss).length = ss.length
  | [], _ => rfl
  | s :: r, h => by
    rw [List.all_cons, Bool.and_eq_true] at h
    have e : ∃ x, pick1 us its ws s = some x := by
      cases s <;> simp only [Src.ok, decide_eq_true_eq] at h <;> exact ⟨_, List.getElem?_eq_getElem h.1⟩
    obtain ⟨x, e⟩ := e
    unfold pick
    rw [e]
    simp [pick_len h.2]
theorem pick_vals {us its ws : List Value} {vs ds zs : List V} (r1 : Vals vs us) (r2 : Vals ds its) (r3 : Vals zs ws) : ∀ ss : List Src, Vals (pick vs ds zs ss) (pick us its ws ss)
  | [] => .nil
  | s :: r => by
    have ih := pick_vals r1 r2 r3 r
    have one : ∀ {xs : List V} {ys : List Value} (j : Nat), Vals xs ys → (∃ x y, xs[j]? = some x ∧ ys[j]? = some y ∧ RelV x y) ∨ (xs[j]? = .none ∧ ys[j]? = .none) := fun {xs ys} j q => by
      cases e : xs[j]? with
      | none => exact .inr ⟨rfl, q.none_of e⟩
      | some x => obtain ⟨y, h1, h2⟩ := q.get e; exact .inl ⟨x, y, rfl, h1, h2⟩
    unfold pick
    cases s with
    | p j => rcases one j r1 with ⟨x, y, e1, e2, q⟩ | ⟨e1, e2⟩ <;> simp only [pick1, e1, e2] <;> first | exact .cons q ih | exact ih
    | k j => rcases one j r3 with ⟨x, y, e1, e2, q⟩ | ⟨e1, e2⟩ <;> simp only [pick1, e1, e2] <;> first | exact .cons q ih | exact ih
    | d j => rcases one j r2 with ⟨x, y, e1, e2, q⟩ | ⟨e1, e2⟩ <;> simp only [pick1, e1, e2] <;> first | exact .cons q ih | exact ih
theorem pick_reps {K : PySem.W.Frag} {T : Tx K} {Fz : Hp} {A : Ad} {us its ws : List LV} {vs ds zs : List V} (r1 : Reps T Fz A us vs) (r2 : Reps T Fz A its ds) (r3 : Reps T Fz A ws zs) : ∀ ss : List Src, Reps T Fz A (pick us its ws ss) (pick vs ds zs ss)
  | [] => .nil
  | s :: r => by
    have ih := pick_reps r1 r2 r3 r
    have one : ∀ {xs : List LV} {ys : List V} (j : Nat), Reps T Fz A xs ys → (∃ x y, xs[j]? = some x ∧ ys[j]? = some y ∧ Rep T Fz A x y) ∨ (xs[j]? = .none ∧ ys[j]? = .none) := fun {xs ys} j q => by
      cases e : xs[j]? with
      | none =>
        have h1 := List.getElem?_eq_none_iff.mp e
        exact .inr ⟨rfl, List.getElem?_eq_none_iff.mpr (by rw [← q.length]; exact h1)⟩
      | some x => obtain ⟨y, h1, h2⟩ := q.get e; exact .inl ⟨x, y, rfl, h1, h2⟩
    unfold pick
    cases s with
    | p j => rcases one j r1 with ⟨x, y, e1, e2, q⟩ | ⟨e1, e2⟩ <;> simp only [pick1, e1, e2] <;> first | exact .cons q ih | exact ih
    | k j => rcases one j r3 with ⟨x, y, e1, e2, q⟩ | ⟨e1, e2⟩ <;> simp only [pick1, e1, e2] <;> first | exact .cons q ih | exact ih
    | d j => rcases one j r2 with ⟨x, y, e1, e2, q⟩ | ⟨e1, e2⟩ <;> simp only [pick1, e1, e2] <;> first | exact .cons q ih | exact ih
/-- constants that stand for defaults -/
inductive Cst : LV → V → Prop where
  | non : Cst .non .non
  | bl (b : Bool) : Cst (.bl b) (.bl b)
  | int (i : Int) : Cst (.int i) (.int i)
  | str (s : Str) : Cst (.str s) (.str s)
theorem Cst.rep {K : PySem.W.Frag} {T : Tx K} {Fz : Hp} {A : Ad} {v : LV} {x : V} (c : Cst v x) : Rep T Fz A v x := by
  cases c
  · exact .non
  · exact .bl _
  · exact .int _
  · exact .str _
theorem csts_reps {K : PySem.W.Frag} {T : Tx K} {Fz : Hp} {A : Ad} : ∀ {vs : List LV} {xs : List V}, Paired Cst vs xs → Reps T Fz A vs xs
  | _, _, .nil => .nil
  | _, _, .cons c r => .cons c.rep (csts_reps r)
/-- a call with n positional values and keywords ks binds: the parameters are picked by ss; ds the defaults -/
structure KB (K : PySem.W.Frag) (fd : FuncData) (ps : List Str) (n : Nat) (ks : List Str) (ds : List LV) (ss : List Src) : Prop where
  ex : ∃ (its : List Value) (dvs : List V), Vals dvs its ∧ Paired Cst ds dvs ∧ ∀ (s : Shared) (us ws : List Value), K.In s.heap → us.length = n → ws.length = ks.length → BindsTo s fd ⟨us, ks.zip ws⟩ (ps.zip (pick us its ws ss))
  len : ss.length = ps.length
  ok : ss.all (Src.ok n ks.length ds.length) = true
section
variable {K : PySem.W.Frag} {x qual : Str} {params : Arguments} {body : List Stmt} {scope : Scope} {dvs : List V} {kws : List (Str × V)} {f : Addr} {fd : FuncData} {ps : List Str}
/-- no defaults: h is «fun _ _ _ _ _ _ us ws h1 h2 => match us, ws, h1, h2 with | [_, _], [_], _, _ => rfl» -/
theorem FunD.kb0 (F : FunD K x qual params body scope [] kws f fd) (n : Nat) (ks : List Str) (ss : List Src) (len : ss.length = ps.length) (ok : ss.all (Src.ok n ks.length 0) = true)
    (h : ∀ (kV doc pm : Value) (an : Option Addr) (cdv ct : Value) (us ws : List Value), us.length = n → ws.length = ks.length → bindArgs (PySem.W.fnOf x qual params body scope .none kV doc pm an cdv ct) ⟨us, ks.zip ws⟩ = pure (ps.zip (pick us [] ws ss))) : KB K fd ps n ks [] ss := by
  obtain ⟨oc, od, dV, kV, doc, pm, an, cdv, ct, osl, rfl, lk, hcd, hD, hK⟩ := F.ex
  rcases hD with ⟨_, rfl⟩ | ⟨e, _⟩
  · exact ⟨⟨[], [], .nil, .nil, fun s us ws X h1 h2 => .of_eq (h kV doc pm an cdv ct us ws h1 h2)⟩, len, ok⟩
  · exact absurd rfl e
/-- with defaults: h is «fun _ _ _ _ _ _ _ us its ws h1 h2 h3 => match us, its, ws, h1, h2, h3 with | [_, _], [_], [], _, _, _ => ⟨_, rfl, rfl⟩» -/
theorem FunD.kb1 (F : FunD K x qual params body scope dvs kws f fd) (hd : dvs ≠ []) {ds : List LV} (hc : Paired Cst ds dvs) (n : Nat) (ks : List Str) (ss : List Src) (len : ss.length = ps.length) (ok : ss.all (Src.ok n ks.length ds.length) = true)
    (h : ∀ (A : Addr) (kV doc pm : Value) (an : Option Addr) (cdv ct : Value) (us its ws : List Value), us.length = n → its.length = dvs.length → ws.length = ks.length →
      ∃ k, bindArgs (PySem.W.fnOf x qual params body scope (.ref A) kV doc pm an cdv ct) ⟨us, ks.zip ws⟩ = seqItems? (.ref A) >>= k ∧ k (some its.toArray) = pure (ps.zip (pick us its ws ss))) : KB K fd ps n ks ds ss := by
  obtain ⟨oc, od, dV, kV, doc, pm, an, cdv, ct, osl, rfl, lk, hcd, hD, hK⟩ := F.ex
  rcases hD with ⟨e, _⟩ | ⟨_, A, o, its, m, rfl, lT, oT, rT⟩
  · exact absurd e hd
  · refine ⟨⟨its, dvs, rT, hc, fun s us ws X h1 h2 => ?_⟩, len, ok⟩
    obtain ⟨k, e1, e2⟩ := h A kV doc pm an cdv ct us its ws h1 rT.length.symm h2
    refine BindsTo.of_looks fun M => ?_
    rw [e1]
    exact looks_items X lT oT (.of_pure e2)
end

/-! ### what is called -/
abbrev Mv2 := List LV → List LV → Sto → Rz LV
section
variable {X : Cx} (T : Tx X.K) (W : WX)
/-- the value f called with n values and keywords ks does as F says -/
def CalK (f : Value) (n : Nat) (ks : List Str) (F : Mv2) : Prop :=
  ∀ (pins : List (Addr × Obj)) (s : Shared) (σ : L2.St) (H Fz : Hp) (A : Ad) (st : Sto) (vs zs : List LV) (xs ys : List V) (us ws : List Value) (Q : VK), Inv X pins σ H s → Wd T H Fz A st → Vals xs us → Reps T Fz A vs xs → Vals ys ws → Reps T Fz A zs ys →
    vs.length = n → zs.length = ks.length → Go T Fz A (okV T Q) (exW W σ) (F vs zs st) → wpAny (model X.prog X.w) X.A (call f us (ks.zip ws)) (EP X pins σ Q) X.xe s
end
/-- a def's answer to picked arguments -/
def viaM (M : Mv) (ds : List LV) (ss : List Src) : Mv2 := fun vs zs st => M (pick vs ds zs ss) st
/-- an instance that was made, as it is from now on -/
def mkI (r : Nat) (x : Rz LV) : Rz LV := match x with
  | some (.ok .non, st) => match st[r]? with
    | some (.ins c fs) => some (.ok (.ins c fs), st.set r .gone)
    | _ => .none
  | some (.ex c fs, st) => some (.ex c fs, st)
  | _ => .none
/-- .. that goes on changing -/
def mkO (r : Nat) (x : Rz LV) : Rz LV := match x with
  | some (.ok .non, st) => some (.ok (.ob r), st)
  | some (.ex c fs, st) => some (.ex c fs, st)
  | _ => .none
def viaI (c : Nat) (M : Mv) (ds : List LV) (ss : List Src) : Mv2 := fun vs zs st => mkI st.length (M (pick (.ob st.length :: vs) ds zs ss) (st ++ [.ins c []]))
def viaO (c : Nat) (M : Mv) (ds : List LV) (ss : List Src) : Mv2 := fun vs zs st => mkO st.length (M (pick (.ob st.length :: vs) ds zs ss) (st ++ [.ins c []]))
section
variable {X : Cx} {T : Tx X.K} {W : WX} {k n c : Nat} {ks ps : List Str} {f : Addr} {fd : FuncData} {M : Mv} {ds : List LV} {ss : List Src}
/-- a def of the text -/
theorem calK_fn (F : FnOk X.prog X.w X.K X.mg X.base (L2.CX X.prog X.w) k f fd ps (spM T ps.length M)) (hr : Room k X.A) (kb : KB X.K fd ps n ks ds ss) (tk : Takes X W) : CalK T W (.ref f) n ks (viaM M ds ss) := by
  intro pins s σ H Fz A st vs zs xs ys us ws Q I w rx px ry py l1 l2 g
  obtain ⟨⟨its, dvs, rd, cd, hb⟩, hlen, hok⟩ := kb
  have n1 : us.length = n := by rw [← rx.length, ← px.length]; exact l1
  have n2 : ws.length = ks.length := by rw [← ry.length, ← py.length]; exact l2
  have hP := pick_reps px (csts_reps (T := T) (Fz := Fz) (A := A) cd) py ss
  have hV := pick_vals rx rd ry ss
  have hl : (pick xs dvs ys ss).length = ps.length := by
    rw [← hP.length, ← hlen]
    exact pick_len (by rw [l1, l2]; exact hok)
  refine wpAny_call (codeAny_mono (F.run X.A X.stack s H ⟨us, ks.zip ws⟩ (pick us its ws ss) (pick xs dvs ys ss) Q (WE W σ) hr I.env0 (hb s us ws I.kIn n1 n2) hV ⟨hl, _, st, Fz, A, w, hP, g⟩) fun r s' hq => ?_)
  cases r with
  | error e => exact passAt tk σ pins H s e s' I hq
  | ok fl =>
    cases fl with
    | ret u => exact I.after hq
    | next => exact False.elim hq
    | brk => exact False.elim hq
    | cont => exact False.elim hq
/-- a class of the text: G what becomes of the new instance -/
theorem calK_cls (mk : Mk X.K (T.cls c) f) (F : FnOk X.prog X.w X.K X.mg X.base (L2.CX X.prog X.w) k f fd ps (spM T ps.length M)) (hr : Room (k + 1) X.A) (kb : KB X.K fd ps (n + 1) ks ds ss) (tk : Takes X W) {G : Nat → Rz LV → Rz LV}
    (hG : ∀ {H Fz : Hp} {A : Ad} {r : Nat} {Q : VK} {ex : Xq} {x : Rz LV} {a : Addr}, A.l[r]? = some a → Go T Fz A (okV T Q) ex (G r x) → Go T Fz A (fun v H' F B _ => v = .non ∧ Q (.ref a) H') ex x) :
    CalK T W (.ref (T.cls c)) n ks (fun vs zs st => G st.length (M (pick (.ob st.length :: vs) ds zs ss) (st ++ [.ins c []]))) := by
  intro pins s σ H Fz A st vs zs xs ys us ws Q I w rx px ry py l1 l2 g
  obtain ⟨⟨its, dvs, rd, cd, hb⟩, hlen, hok⟩ := kb
  have nx : H (s.heap.objs.size + 1) = .none := I.hok.fresh (Nat.le_succ _)
  have nd : H s.heap.objs.size = .none := I.hok.fresh (Nat.le_refl _)
  have ne : s.heap.objs.size + 1 ≠ s.heap.objs.size := by omega
  have I2 := Inv.made (C := T.cls c) I
  have w1 := w.aside (o := .own (s.heap.objs.size + 1)) nd
  have nx1 : upd H s.heap.objs.size (.own (s.heap.objs.size + 1)) (s.heap.objs.size + 1) = .none := by rw [upd_ne ne]; exact nx
  have w2 := w1.grow (o := .ins (T.cls c) s.heap.objs.size []) (m := .ins c []) nx1 ⟨⟨_, [], upd_same, .nil⟩, fun p hp => nomatch hp⟩
  have rs : Rep T Fz (A.snoc (s.heap.objs.size + 1)) (.ob st.length) (.ref (s.heap.objs.size + 1)) := .ob (ap_last w _)
  have px' : Reps T Fz (A.snoc (s.heap.objs.size + 1)) (.ob st.length :: vs) (.ref (s.heap.objs.size + 1) :: xs) := .cons rs (px.mono (Same.refl _) (ap_snoc A _))
  have py' : Reps T Fz (A.snoc (s.heap.objs.size + 1)) zs ys := py.mono (Same.refl _) (ap_snoc A _)
  have rx' : Vals (V.ref (s.heap.objs.size + 1) :: xs) (Value.ref (s.heap.objs.size + 1) :: us) := .cons rfl rx
  have n1 : (Value.ref (s.heap.objs.size + 1) :: us).length = n + 1 := by rw [← rx'.length, ← px'.length, List.length_cons, l1]
  have n2 : ws.length = ks.length := by rw [← ry.length, ← py.length]; exact l2
  have hP := pick_reps px' (csts_reps (T := T) (Fz := Fz) (A := A.snoc (s.heap.objs.size + 1)) cd) py' ss
  have hV := pick_vals rx' rd ry ss
  have hl : (pick (V.ref (s.heap.objs.size + 1) :: xs) dvs ys ss).length = ps.length := by
    rw [← hP.length, ← hlen]
    exact pick_len (by rw [List.length_cons, l1, l2]; exact hok)
  have g' : Go T Fz (A.snoc (s.heap.objs.size + 1)) (okV T fun v H' => v = .non ∧ Q (.ref (s.heap.objs.size + 1)) H') (exW W σ) (M (pick (.ob st.length :: vs) ds zs ss) (st ++ [.ins c []])) :=
    (hG (H := H) (ap_last w _) (g.mono (Same.refl _) (ap_snoc A _))).imp (fun v H' F B st' _ _ _ h => fun x r => ⟨by obtain ⟨e, _⟩ := h; subst e; cases r; rfl, h.2⟩) fun _ _ _ h => h
  refine wpAny_call (make_map (f := f) I.kIn mk.makes mk.init (beq_iff_eq.mp mk.fn) (codeAny_mono (F.run _ X.stack _ _ ⟨Value.ref (s.heap.objs.size + 1) :: us, ks.zip ws⟩ (pick (Value.ref (s.heap.objs.size + 1) :: us) its ws ss) _ _ (WE W σ) (hr.make (T.cls c) us (ks.zip ws))
    (I2.env0.make (T.cls c) us (ks.zip ws)) (hb _ (Value.ref (s.heap.objs.size + 1) :: us) ws I2.kIn n1 n2) hV ⟨hl, _, _, Fz, _, w2, hP, g'⟩) fun r s' hq => ?_))
  cases r with
  | error e => exact passAt tk σ pins _ _ e s' I2 hq
  | ok fl =>
    cases fl with
    | ret u =>
      obtain ⟨v, H', I3, rv, ev, q3⟩ := I2.after hq
      subst ev
      exact ⟨rv, ⟨V.ref (s.heap.objs.size + 1), H', I3, rfl, q3⟩⟩
    | next => exact False.elim hq
    | brk => exact False.elim hq
    | cont => exact False.elim hq
theorem calK_ins (mk : Mk X.K (T.cls c) f) (F : FnOk X.prog X.w X.K X.mg X.base (L2.CX X.prog X.w) k f fd ps (spM T ps.length M)) (hr : Room (k + 1) X.A) (kb : KB X.K fd ps (n + 1) ks ds ss) (tk : Takes X W) :
    CalK T W (.ref (T.cls c)) n ks (viaI c M ds ss) := calK_cls mk F hr kb tk (G := mkI) fun {H Fz A r Q ex x a} hA g => by
  unfold mkI at g
  split at g
  · rename_i st
    split at g
    · rename_i c' fs hs
      intro H F B h1 h2 w
      obtain ⟨⟨dx, vs, hv, rf⟩, wf⟩ := w.mo r a _ (h2.get hA) hs
      obtain ⟨w', s'⟩ := w.freeze (h2.get hA) hs rfl hv
      exact ⟨rfl, g H _ B (h1.trans s') h2 w' _ (.ins upd_same (rf.mono s' (Ap.refl _)) wf)⟩
    · exact g.elim
  · exact g
  · exact g.elim
theorem calK_obj (mk : Mk X.K (T.cls c) f) (F : FnOk X.prog X.w X.K X.mg X.base (L2.CX X.prog X.w) k f fd ps (spM T ps.length M)) (hr : Room (k + 1) X.A) (kb : KB X.K fd ps (n + 1) ks ds ss) (tk : Takes X W) :
    CalK T W (.ref (T.cls c)) n ks (viaO c M ds ss) := calK_cls mk F hr kb tk (G := mkO) fun {H Fz A r Q ex x a} hA g => by
  unfold mkO at g
  split at g
  · intro H F B h1 h2 w
    exact ⟨rfl, g H F B h1 h2 w _ (.ob (h2.get hA))⟩
  · exact g
  · exact g.elim
end

/-! ### keywords -/
structure EKw (X : Cx) (T : Tx X.K) (W : WX) (kws : List Keyword) (fr : Av) : Prop where
  pk : PK X kws (tAv T W fr)
  len : ∀ ls st vs st', fr ls st = some (.ok vs, st') → vs.length = kws.length
def eCallK (F : Mv2) (r rk : Av) : Ev := fun ls st => bnd (r ls st) fun vs st => bnd (rk ls st) fun zs st => F vs zs st
/-- which class a value is of -/
def clsOf (v : LV) (st : Sto) : Option Nat := match v with
  | .ins c _ => some c
  | .ob r => match st[r]? with
    | some (.ins c _) => some c
    | _ => .none
  | _ => .none
def eMethK (tb : Nat → Option Mv2) (o : Ev) (r rk : Av) : Ev := fun ls st => bnd (o ls st) fun ov st => match clsOf ov st with
  | some c => match tb c with
    | some F => bnd (r ls st) fun vs st => bnd (rk ls st) fun zs st => F (ov :: vs) zs st
    | .none => .none
  | .none => .none
def eMeth (tb : Nat → Option Mv) (o : Ev) (r : Av) : Ev := fun ls st => bnd (o ls st) fun ov st => match clsOf ov st with
  | some c => match tb c with
    | some M => bnd (r ls st) fun vs st => M (ov :: vs) st
    | .none => .none
  | .none => .none
section
variable {X : Cx} {T : Tx X.K} {W : WX} {n : Nat} {ks : List Str} {F : Mv2} {fr fk : Av} {fo fe : Ev} {x m : Str} {v : Value} {p pos apos : Pos} {e o : Expr} {es : List Expr} {kws : List Keyword}
theorem ek_nil : EKw X T W [] aNil := ⟨⟨fun pos pins s σ H Q I h => by
  obtain ⟨ls, st, Fz, A, w, sr, g⟩ := h
  exact pk_nil.run pos pins s σ H Q I (g.ok w [] .nil)⟩, fun _ _ _ _ h => by cases h; rfl⟩
theorem ek_cons {nm : Option Str} {kpos : Pos} (ha : PE X e (tEv T W fe)) (hr : EKw X T W kws fr) : EKw X T W (⟨nm, e, kpos⟩ :: kws) (aCons fe fr) := ⟨⟨fun pos pins s σ H Q I h => by
  refine (pk_cons ha hr.pk).run pos pins s σ H Q I ?_
  obtain ⟨ls, st, Fz, A, w, sr, g⟩ := h
  refine tEv_q (tEv_seq w sr g) fun x H1 hh => ?_
  obtain ⟨v, F, B, st1, s1, p1, w1, sr1, r1, g1⟩ := hh
  refine tAv_q (tAv_seq w1 sr1 g1) fun xs H2 hh => ?_
  obtain ⟨vs, F2, B2, st2, s2, p2, w2, sr2, r2, g2⟩ := hh
  exact g2.ok w2 _ (.cons (r1.mono s2 p2) r2)⟩, fun ls st vs st' h => by
  unfold aCons at h
  cases e1 : fe ls st with
  | none => rw [e1] at h; cases h
  | some y =>
    obtain ⟨z, st1⟩ := y
    cases z with
    | ex c fs => rw [e1] at h; cases h
    | ok v =>
      rw [e1] at h
      simp only [bnd] at h
      cases e2 : fr ls st1 with
      | none => rw [e2] at h; cases h
      | some y2 =>
        obtain ⟨z2, st2⟩ := y2
        cases z2 with
        | ex c fs => rw [e2] at h; cases h
        | ok ws =>
          rw [e2] at h
          cases h
          simp [hr.len _ _ _ _ e2]⟩
/-- x(e, .., k = v, ..) -/
theorem ev_callN (hc : CalK T W v n ks F) (hg : Gl X x) (hm : X.mg x = some v) (hk : PySem.W.keepIn X.K v = true) (ha : EA X T W (e :: es) fr) (hkw : EKw X T W kws fk) (hn : (e :: es).length = n := by rfl) (hl : kws.length = ks.length := by rfl)
    (hall : (backToKw pos (keywordEach kws X.env)).all (·.1.isSome) = true := by rfl) (hks : (backToKw pos (keywordEach kws X.env)).filterMap (·.1) = ks := by rfl) (hdb : (x == ("__debug__" : Str)) = false := by decide)
    (he : starEach (e :: es) X.env = (false, eval e X.env) :: starEach es X.env := by rfl) (hpl : ((backTo pos (starEach (e :: es) X.env)).any (·.1) || (backToKw pos (keywordEach kws X.env)).any (·.1.isNone)) = false := by rfl) :
    PE X (.Call (.Name x p) (e :: es) kws pos) (tEv T W (eCallK F fr fk)) := by
  refine ⟨fun pins s σ H Q I h => ?_⟩
  obtain ⟨ls, st, Fz, A, w, sr, g⟩ := h
  refine wpAny_Call_Name_kw (ld_glob I hg hm ?_ hdb)
  refine PySem.W.callWith_KW (h₀ := X.base) I.ok.mod.kin hk hall (thn (ha.pa.run pos pins s σ H _ I (tAv_len ha.len w sr g)) fun us s1 ⟨xs, H1, I1, r1, q1⟩ => ?_) hpl he
  obtain ⟨vs, F1, A1, st1, s1', p1, w1, sr1, rp1, l1, g1⟩ := q1
  refine thn (hkw.pk.run pos pins s1 σ H1 _ I1 (tAv_len hkw.len w1 sr1 g1)) fun ws s2 ⟨ys, H2, I2, r2, q2⟩ => ⟨I2.kIn, ?_⟩
  obtain ⟨zs, F2, A2, st2, s2', p2, w2, sr2, rp2, l2, g2⟩ := q2
  rw [hks]
  exact hc pins s2 σ H2 F2 A2 st2 vs zs xs ys us ws Q I2 w2 r1 (rp1.mono s2' p2) r2 rp2 (l1.trans hn) (l2.trans hl) g2
/-- x(k = v, ..), x() -/
theorem ev_callN0 (hc : CalK T W v 0 ks F) (hg : Gl X x) (hm : X.mg x = some v) (hk : PySem.W.keepIn X.K v = true) (hkw : EKw X T W kws fk) (hl : kws.length = ks.length := by rfl)
    (hall : (backToKw pos (keywordEach kws X.env)).all (·.1.isSome) = true := by rfl) (hks : (backToKw pos (keywordEach kws X.env)).filterMap (·.1) = ks := by rfl) (hdb : (x == ("__debug__" : Str)) = false := by decide)
    (hpl : ((backTo pos (starEach [] X.env)).any (·.1) || (backToKw pos (keywordEach kws X.env)).any (·.1.isNone)) = false := by rfl) :
    PE X (.Call (.Name x p) [] kws pos) (tEv T W (eCallK F aNil fk)) := by
  refine ⟨fun pins s σ H Q I h => ?_⟩
  obtain ⟨ls, st, Fz, A, w, sr, g⟩ := h
  refine wpAny_Call_Name_kw (ld_glob I hg hm ?_ hdb)
  refine PySem.W.callWith_KW0 (h₀ := X.base) I.ok.mod.kin hk hall ?_ hpl
  have g' : Go T Fz A (okV T Q) (exW W σ) (bnd (fk ls st) fun zs st => F [] zs st) := g
  refine thn (hkw.pk.run pos pins s σ H _ I (tAv_len hkw.len w sr g')) fun ws s2 ⟨ys, H2, I2, r2, q2⟩ => ⟨I2.kIn, ?_⟩
  obtain ⟨zs, F2, A2, st2, s2', p2, w2, sr2, rp2, l2, g2⟩ := q2
  rw [hks]
  exact hc pins s2 σ H2 F2 A2 st2 [] zs [] ys [] ws Q I2 w2 .nil .nil r2 rp2 rfl (l2.trans hl) g2
/-- the method m of the class c -/
structure MtOk (X : Cx) (T : Tx X.K) (W : WX) (m : Str) (n : Nat) (ks : List Str) (c : Nat) (F : Mv2) : Prop where
  ex : ∃ f, Cls X.K (T.cls c) ∧ Meth X.K (T.cls c) m f ∧ CalK T W (.ref f) (n + 1) ks F
theorem clsOf_rep {H Fz : Hp} {A : Ad} {st : Sto} {v : LV} {x : V} {c : Nat} (w : Wd T H Fz A st) (r : Rep T Fz A v x) (h : clsOf v st = some c) : ∃ a dx fs vs, x = .ref a ∧ H a = some (.ins (T.cls c) dx vs) ∧ RepF T Fz A fs vs := by
  unfold clsOf at h
  split at h
  · cases h
    cases r with
    | ins h r wf => exact ⟨_, _, _, _, rfl, w.fz _ _ h, r⟩
  · split at h
    · rename_i r' c' fs hs
      cases h
      obtain ⟨a, e, hA⟩ := rep_ob r
      obtain ⟨⟨dx, vs, hv, rf⟩, _⟩ := w.mo _ a _ hA hs
      exact ⟨a, dx, fs, vs, e, hv, rf⟩
    · cases h
  · cases h
/-- o.m(e, .., k = v, ..) -/
theorem ev_methN {pl : Sem Bool} {tb : Nat → Option Mv2} (ho : PE X o (tEv T W fo)) (ht : ∀ c F, tb c = some F → MtOk X T W m n ks c F) (hnm : ∀ g, T.nm g ≠ m) (ha : EA X T W (e :: es) fr) (hkw : EKw X T W kws fk) (hn : (e :: es).length = n := by rfl) (hl : kws.length = ks.length := by rfl)
    (hall : (backToKw pos (keywordEach kws X.env)).all (·.1.isSome) = true := by rfl) (hks : (backToKw pos (keywordEach kws X.env)).filterMap (·.1) = ks := by rfl)
    (he : starEach (e :: es) X.env = (false, eval e X.env) :: starEach es X.env := by rfl) (hpl : ((backTo pos (starEach (e :: es) X.env)).any (·.1) || (backToKw pos (keywordEach kws X.env)).any (·.1.isNone)) = false := by rfl)
    (hev : eval (.Call (.Attribute o m apos) (e :: es) kws pos) X.env = (do
      let ov ← eval o X.env
      standAt apos.atName
      let (f, first) ← holding [ov] (getMethod ov m pl)
      callWith pos f first (backTo pos (starEach (e :: es) X.env)) (backToKw pos (keywordEach kws X.env))) := by rfl) :
    PE X (.Call (.Attribute o m apos) (e :: es) kws pos) (tEv T W (eMethK tb fo fr fk)) := by
  refine ⟨fun pins s σ H Q I h => ?_⟩
  obtain ⟨ls, st, Fz, A, w, sr, g⟩ := h
  refine PySem.W.methodCall_KW (pl := pl) (thn (ho.run pins s σ H _ I (tEv_seq w sr g)) fun u s1 ⟨x, H1, I1, rx, q1⟩ => ?_) hev
  obtain ⟨ov, F1, A1, st1, s1', p1, w1, sr1, rp1, g1⟩ := q1
  split at g1
  · rename_i c hc
    split at g1
    · rename_i F hF
      obtain ⟨f, cl, mt, hcal⟩ := (ht c F hF).ex
      obtain ⟨a, dx, fs, vs0, ex, hv, rf⟩ := clsOf_rep w1 rp1 hc
      subst ex
      obtain rfl : u = Value.ref a := rx
      refine getmeth_ok I1 hv cl mt (rf.none hnm) ?_
      refine PySem.W.callWith_KW (first := [.ref a]) (h₀ := X.base) I.ok.mod.kin mt.kp hall (thn (ha.pa.run pos pins s1 σ H1 _ I1 (tAv_len ha.len w1 sr1 g1)) fun us s2 ⟨xs, H2, I2, r2, q2⟩ => ?_) hpl he
      obtain ⟨vs, F2, A2, st2, s2', p2, w2, sr2, rp2, l2, g2⟩ := q2
      refine thn (hkw.pk.run pos pins s2 σ H2 _ I2 (tAv_len hkw.len w2 sr2 g2)) fun ws s3 ⟨ys, H3, I3, r3, q3⟩ => ⟨I3.kIn, ?_⟩
      obtain ⟨zs, F3, A3, st3, s3', p3, w3, sr3, rp3, l3, g3⟩ := q3
      rw [hks]
      exact hcal pins s3 σ H3 F3 A3 st3 (ov :: vs) zs (.ref a :: xs) ys (.ref a :: us) ws Q I3 w3 (.cons rfl r2) (.cons ((rp1.mono s2' p2).mono s3' p3) (rp2.mono s3' p3)) r3 rp3 (by rw [List.length_cons, l2, hn]) (l3.trans hl) g3
    · exact g1.elim
  · exact g1.elim
/-- o.m(k = v, ..), o.m() -/
theorem ev_methN0 {pl : Sem Bool} {tb : Nat → Option Mv2} (ho : PE X o (tEv T W fo)) (ht : ∀ c F, tb c = some F → MtOk X T W m 0 ks c F) (hnm : ∀ g, T.nm g ≠ m) (hkw : EKw X T W kws fk) (hl : kws.length = ks.length := by rfl)
    (hall : (backToKw pos (keywordEach kws X.env)).all (·.1.isSome) = true := by rfl) (hks : (backToKw pos (keywordEach kws X.env)).filterMap (·.1) = ks := by rfl)
    (hpl : ((backTo pos (starEach [] X.env)).any (·.1) || (backToKw pos (keywordEach kws X.env)).any (·.1.isNone)) = false := by rfl)
    (hev : eval (.Call (.Attribute o m apos) [] kws pos) X.env = (do
      let ov ← eval o X.env
      standAt apos.atName
      let (f, first) ← holding [ov] (getMethod ov m pl)
      callWith pos f first (backTo pos (starEach [] X.env)) (backToKw pos (keywordEach kws X.env))) := by rfl) :
    PE X (.Call (.Attribute o m apos) [] kws pos) (tEv T W (eMethK tb fo aNil fk)) := by
  refine ⟨fun pins s σ H Q I h => ?_⟩
  obtain ⟨ls, st, Fz, A, w, sr, g⟩ := h
  refine PySem.W.methodCall_KW (pl := pl) (thn (ho.run pins s σ H _ I (tEv_seq w sr g)) fun u s1 ⟨x, H1, I1, rx, q1⟩ => ?_) hev
  obtain ⟨ov, F1, A1, st1, s1', p1, w1, sr1, rp1, g1⟩ := q1
  split at g1
  · rename_i c hc
    split at g1
    · rename_i F hF
      obtain ⟨f, cl, mt, hcal⟩ := (ht c F hF).ex
      obtain ⟨a, dx, fs, vs0, ex, hv, rf⟩ := clsOf_rep w1 rp1 hc
      subst ex
      obtain rfl : u = Value.ref a := rx
      refine getmeth_ok I1 hv cl mt (rf.none hnm) ?_
      refine PySem.W.callWith_KW0 (first := [.ref a]) (h₀ := X.base) I.ok.mod.kin mt.kp hall ?_ hpl
      have g' : Go T F1 A1 (okV T Q) (exW W σ) (bnd (fk ls st1) fun zs st => F [ov] zs st) := g1
      refine thn (hkw.pk.run pos pins s1 σ H1 _ I1 (tAv_len hkw.len w1 sr1 g')) fun ws s3 ⟨ys, H3, I3, r3, q3⟩ => ⟨I3.kIn, ?_⟩
      obtain ⟨zs, F3, A3, st3, s3', p3, w3, sr3, rp3, l3, g3⟩ := q3
      rw [hks]
      exact hcal pins s3 σ H3 F3 A3 st3 [ov] zs [.ref a] ys [.ref a] ws Q I3 w3 (.cons rfl .nil) (.cons (rp1.mono s3' p3) .nil) r3 rp3 rfl (l3.trans hl) g3
    · exact g1.elim
  · exact g1.elim
end
end EL

set_option Elab.async false
set_option linter.all false
set_option maxRecDepth 100000
set_option maxHeartbeats 1000000
/-! EL7: isinstance, raise, try .. except X as n. -/
namespace PySem.W
open PySem PySem.Spec PySem.Calls PyProof.Rows
section
variable {prog : Program} {w : World} {A : Around} {E : Value → Shared → Prop} {s : Shared} {K : Frag} {x D : Addr} {ox : Obj}
/-- __class__ of an exception of an own class, its dict made or not -/
theorem el_class {od : Option Obj} {Q : Option Value → Shared → Prop} (c : L2.ExcC K D) (X : K.In s.heap) (I : InstAt s.heap x ox D od) (h : Q (some (.ref D)) { s with toks := s.toks + 1 }) :
    wpAny (model prog w) A (getAttr? (.ref x) "__class__") Q E s := by
  have hf : findObj K D od "__class__" = some (.bind (.builtin "getset_descriptor.__get__") (.builtin "object.__class__")) := by
    have hs : (clsIn K D).isSome = true := by obtain ⟨cd, hc, _⟩ := any_some c.hd; rw [hc]; rfl
    cases od with
    | none => exact findObj_dataN hs c.ha c.hn c.ht
    | some o => exact findObj_data hs c.ha c.hn c.ht
  obtain ⟨hp, g, d, t, os⟩ := s
  have T0 := I.type (M := model prog w)
  have T3 := looks_find (M := model prog w) X I hf
  have sb : Looks (model prog w) hp (isInstance (.ref x) (.type "BaseException")) true := T0.andThen (looks_subIn X c.hs)
  have n2 : (Value.builtin "BaseException.__getattribute__" == Value.builtin "object.__getattribute__") = false := by decide +kernel
  have n1 : (onTheHeap (Value.ref D) && Value.builtin "BaseException.__getattribute__" == Value.builtin "object.__getattribute__") = false := by rw [n2]; rfl
  unfold getAttr? getAttrBy? getAttrBy
  refine wpAny_bind (wpAny_mkText (wpAny_bind (wpAny_attempt (wpAny_holding (wpAny_bind (T0.at (wpAny_bind ((looks_findIn (M := model prog w) X c.hg).at ?_))))))))
  show wpAny _ _ (ite ((onTheHeap (Value.ref D) && Value.builtin "BaseException.__getattribute__" == Value.builtin "object.__getattribute__") = true) _ _) _ _ _
  rw [n1, if_neg Bool.false_ne_true]
  unfold getAttrByItsOwn hookBefore
  refine wpAny_bind ?_
  rw [if_pos (show onTheHeap (Value.ref D) = true from rfl)]
  refine (looks_findIn (M := model prog w) X c.hk).at (wpAny_bind (wpAny_attempt (wpAny_holding ?_)))
  unfold callGetattribute
  rw [show (false && onTheHeap (Value.builtin "BaseException.__getattribute__")) = false from rfl, if_neg Bool.false_ne_true]
  unfold boundAndCalled
  rw [PySem.F.excAttr_ValueError.ga.bind (.ref x)]
  refine wpAny_bind (wpAny_pure ?_)
  show wpAny _ _ (call (.builtin "BaseException.__getattribute__") [.ref x, .str "__class__" t]) _ _ _
  refine wpAny_call (codeAny_call_builtin PySem.F.excAttr_ValueError.ga.plain PySem.F.entry_bexc_ga ?_)
  refine @check_slot (model prog w) _ _ ⟨hp, g, d, t + 1, os⟩ "BaseException.__getattribute__" "BaseException" "__getattribute__" (.ref x) [.str "__class__" t] [] _ (by decide +kernel) (by decide +kernel) sb (PySem.F.args_bexc_ga (.ref x) (.str "__class__" t)) ?_
  unfold Builtin.«object.__getattribute__»
  refine wpAny_bind (wpAny_of_eq (a := ((Value.ref x : Value), [Value.str "__class__" t])) (by first | rfl | (simp only [slotArgs]; rfl)) (wpAny_bind (wpAny_pure (wpAny_bind (T0.at (wpAny_bind (T3.at ?_)))))))
  show wpAny _ _ (holding [Value.builtin "object.__class__"] (call (.builtin "getset_descriptor.__get__") [.builtin "object.__class__", .ref x, .ref D]) >>= ret) _ _ _
  refine wpAny_bind (wpAny_holding (wpAny_call (class_get (s := ⟨hp, g, d, t + 1, os⟩) (ox := ox) (od := od) X I c.hm (wpAny_pure ?_))))
  show wpAny _ _ (handedOut (.ref D)) _ _ _
  rw [handedOut_of (v := .ref D) rfl]
  first
    | exact wpAny_pure (wpAny_pure h)
    | exact wpAny_pure h
    | exact wpAny_pure (wpAny_bind (wpAny_pure (wpAny_pure h)))
theorem el_kitx (c : L2.ExcC K D) : KitX K (.ref x) (.ref D) (fun h => ∃ ox od, InstAt h x ox D od) where
  ty := fun _ _ _ ⟨_, _, I⟩ => I.type
  it := fun _ _ X _ => by
    obtain ⟨cd, hc, _⟩ := any_some c.hd
    unfold clsIn at hc
    split at hc
    · rename_i ho
      intro A' Q' E' s' k q
      unfold isType loadHead
      exact wpAny_bind (wpAny_loadPart (k _ _ (X _ _ ho)) (wpAny_pure q))
    · cases hc
  ne := fun h tp dd its n sl X htp => by
    obtain ⟨cd, hc, _⟩ := any_some c.hd
    refine Bool.eq_false_iff.mpr fun q => ?_
    have e : D = tp := Value.ref.inj (beq_iff_eq.mp q)
    subst e
    unfold clsIn at hc
    split at hc
    · rename_i ho; cases (X _ _ ho).symm.trans htp
    · cases hc
  ca := fun X ⟨_, _, I⟩ k => el_class c X I k
end
end PySem.W

namespace EL
open PySem PySem.Spec PyProof.Rows L2
/-- a type: a built-in one, an own class, an own class of errors (as a value's type) -/
inductive Ty where
  | b (n : String) | c (c : Nat) | x (c : Nat)
def tyOf (v : LV) (st : Sto) : Option Ty := match v with
  | .non => some (.b "NoneType")
  | .bl _ => some (.b "bool")
  | .int _ => some (.b "int")
  | .str _ => some (.b "str")
  | .tup _ => some (.b "tuple")
  | .lst _ => some (.b "list")
  | .dct _ => some (.b "dict")
  | .ins c _ => some (.c c)
  | .exc c _ => some (.x c)
  | .ob r => match st[r]? with
    | some (.lst _) => some (.b "list")
    | some (.dct _) => some (.b "dict")
    | some (.ins c _) => some (.c c)
    | _ => .none
  | _ => .none
def isiAny (f : Ty → Ty → Option Bool) (t : Ty) : List Ty → Option Bool
  | [] => some false
  | k :: r => match f t k with
    | some true => some true
    | some false => isiAny f t r
    | .none => .none
def isiL (f : Ty → Ty → Option Bool) (ks : List Ty) (v : LV) (st : Sto) : Rz LV := match tyOf v st with
  | some t => match isiAny f t ks with
    | some b => some (.ok (.bl b), st)
    | .none => .none
  | .none => .none
structure InsK (K : PySem.W.Frag) (C : Addr) : Prop where
  cl : Cls K C
  ha : PySem.W.findIn K (.ref C) "__class__" = some (some (.builtin "object.__class__"))
  hn : PySem.W.specialIn K (.builtin "object.__class__") "__get__" = some (some (.builtin "getset_descriptor.__get__"))
  htk : PySem.W.takesIn K (.builtin "object.__class__") = some true
  hm : PySem.W.mroIn K C (.type "object") = some true
def tyV' {K : PySem.W.Frag} (T : Tx K) : Ty → Value
  | .b n => .type n
  | .c c => .ref (T.cls c)
  | .x c => .ref (T.cls c)
/-- what the text must say so that f tells isinstance rightly -/
structure IsiOk {K : PySem.W.Frag} (T : Tx K) (f : Ty → Ty → Option Bool) : Prop where
  ok : ∀ t k b, f t k = some b → PySem.W.kitOne K (tyV' T t) (tyV' T k) = some b
  ins : ∀ c k b, f (.c c) k = some b → InsK K (T.cls c)
  exc : ∀ c k b, f (.x c) k = some b → ExcC K (T.cls c)
theorem isiAny_kit {K : PySem.W.Frag} {T : Tx K} {f : Ty → Ty → Option Bool} (h : IsiOk T f) {t : Ty} : ∀ {ks : List Ty} {b : Bool}, isiAny f t ks = some b → PySem.W.kitAny K (tyV' T t) (ks.map (tyV' T)) = some b
  | [], b, e => by cases e; rfl
  | k :: r, b, e => by
    unfold isiAny at e
    unfold PySem.W.kitAny
    cases e1 : f t k with
    | none => rw [e1] at e; cases e
    | some z =>
      rw [List.map_cons]
      simp only [h.ok _ _ _ e1]
      rw [e1] at e
      cases z with
      | true => cases e; rfl
      | false => exact isiAny_kit h e
section
variable {X : Cx} {T : Tx X.K} {W : WX} {pins : List (Addr × Obj)} {σ : L2.St} {H Fz : Hp} {A : Ad} {st : Sto} {s : Shared}
theorem kit_rep {v : LV} {x : V} {u : Value} {t : Ty} (hk : ∀ c, t = .c c → InsK X.K (T.cls c)) (hx : ∀ c, t = .x c → ExcC X.K (T.cls c)) (I : Inv X pins σ H s) (w : Wd T H Fz A st) (r : Rep T Fz A v x) (rx : RelV x u) (h : tyOf v st = some t) :
    ∃ P : Heap → Prop, PySem.W.KitX X.K u (tyV' T t) P ∧ P s.heap ∧ u ≠ .builtin "__main__.__loader__#opaque" := by
  have ins : ∀ {c : Nat} {a dx : Addr} {vs : List (Str × V)}, InsK X.K (T.cls c) → H a = some (.ins (T.cls c) dx vs) → RelV (.ref a) u → ∃ P : Heap → Prop, PySem.W.KitX X.K u (.ref (T.cls c)) P ∧ P s.heap ∧ u ≠ .builtin "__main__.__loader__#opaque" := fun {c a dx vs} k e ru =>
    kit_of I ru (.base (.ins e k.cl k.ha k.hn k.htk k.hm))
  cases r with
  | non => cases h; exact kit_of I rx (.base .non)
  | bl b => cases h; exact kit_of I rx (.base (.bl b))
  | int b => cases h; exact kit_of I rx (.base (.int b))
  | str b => cases h; exact kit_of I rx (.base (.str b))
  | ty n => cases h
  | cl c => cases h
  | lam q => cases h
  | tup q _ =>
    cases h
    rcases sqT_mono w.fz q with (q | ⟨o, q⟩) | ⟨o, its, n, q, hc, _⟩
    · exact kit_of I rx (.base (.tup q))
    · exact kit_of I rx (.fTuple q)
    · exact kit_of I rx (.kTuple q hc)
  | lst q _ =>
    cases h
    rcases w.fz.seq q with (q | ⟨o, q⟩) | ⟨o, its, n, q, hc, _⟩
    · exact kit_of I rx (.base (.lst q))
    · exact kit_of I rx (.base (.frz q))
    · exact kit_of I rx (.kList q hc)
  | dct q _ =>
    cases h
    rcases rd_mono w.fz q with q | ⟨o, q⟩
    · exact kit_of I rx (.base (.dK q))
    · exact kit_of I rx (.fDict q)
  | @ins c fs vs a dx q _ _ =>
    cases h
    exact ins (hk c rfl) (w.fz _ _ q) rx
  | @exc c fs vs a d uo wo q ea hd xd _ _ =>
    cases h
    obtain rfl := (show u = _ from rx)
    obtain ⟨ph, rfl, hp⟩ := ea
    obtain ⟨hph, _, _⟩ := (show ObjOk X.prog X.w H s.heap a (.ext ph) from I.hok a _ (w.fz _ _ q))
    obtain ⟨oe, fv, hoe, hz, hdat⟩ := hp _ hph
    obtain ⟨od, hod⟩ := objOk_get (I.hok d _ (w.fz _ _ hd))
    exact ⟨_, PySem.W.el_kitx (hx c rfl), ⟨oe, some od, hoe, hz.1, by unfold PySem.W.notCls; rw [hdat] <;> rfl, by rw [hz.2]; exact hod⟩, fun z => nomatch z⟩
  | @exc0 c a uo q ea =>
    cases h
    obtain rfl := (show u = _ from rx)
    obtain ⟨ph, rfl, hp⟩ := ea
    obtain ⟨hph, _, _⟩ := (show ObjOk X.prog X.w H s.heap a (.ext ph) from I.hok a _ (w.fz _ _ q))
    obtain ⟨oe, fv, hoe, hz, hdat⟩ := hp _ hph
    exact ⟨_, PySem.W.el_kitx (hx c rfl), ⟨oe, none, hoe, hz.1, by unfold PySem.W.notCls; rw [hdat] <;> rfl, by rw [hz.2]; trivial⟩, fun z => nomatch z⟩
  | @ob r a q =>
    simp only [tyOf] at h
    split at h
    · rename_i xs hs
      cases h
      obtain ⟨vs, hv, _⟩ := w.mo _ _ _ q hs
      exact kit_of I rx (.base (.lst hv))
    · rename_i xs hs
      cases h
      obtain ⟨vs, hv, _⟩ := w.mo _ _ _ q hs
      exact kit_of I rx (.base (.dK hv))
    · rename_i c fs hs
      cases h
      obtain ⟨⟨dx, vs, hv, _⟩, _⟩ := w.mo _ _ _ q hs
      exact ins (hk c rfl) hv rx
    · cases h
/-- isinstance by values: one class -/
theorem isi_one {f : Ty → Ty → Option Bool} (hI : IsiOk T f) {k : Ty} {v : LV} {x : V} {u : Value} {Q : VK} {ex : Xq} (I : Inv X pins σ H s) (w : Wd T H Fz A st) (r : Rep T Fz A v x) (rx : RelV x u) (g : Go T Fz A (okV T Q) ex (isiL f [k] v st)) :
    wpAny (model X.prog X.w) X.A (call (.builtin "isinstance") [u, tyV' T k]) (EP X pins σ Q) X.xe s := by
  unfold isiL at g
  split at g
  · rename_i t ht
    split at g
    · rename_i b hb
      unfold isiAny at hb
      split at hb
      · rename_i e
        cases hb
        obtain ⟨P, Z, p, hx⟩ := kit_rep (fun c e' => hI.ins c k _ (by rw [← e']; exact e)) (fun c e' => hI.exc c k _ (by rw [← e']; exact e)) I w r rx ht
        exact PySem.W.kia_one Z I.kIn p (hI.ok _ _ _ e) hx fun tk => ⟨.bl true, H, I.tok tk, rfl, g.ok w _ (.bl _)⟩
      · rename_i e
        cases hb
        obtain ⟨P, Z, p, hx⟩ := kit_rep (fun c e' => hI.ins c k _ (by rw [← e']; exact e)) (fun c e' => hI.exc c k _ (by rw [← e']; exact e)) I w r rx ht
        exact PySem.W.kia_one Z I.kIn p (hI.ok _ _ _ e) hx fun tk => ⟨.bl false, H, I.tok tk, rfl, g.ok w _ (.bl _)⟩
      · cases hb
    · exact g.elim
  · exact g.elim
end
/-- isinstance(e, C): the class as the text writes it -/
def eIsi (f : Ty → Ty → Option Bool) (k : Ty) (e : Ev) : Ev := fun ls st => bnd (e ls st) (isiL f [k])
section
variable {X : Cx} {T : Tx X.K} {W : WX} {e ce : Expr} {fe : Ev} {p pos : Pos}
theorem ev_isi {f : Ty → Ty → Option Bool} (hI : IsiOk T f) {k : Ty} {cv : V} (hg : Gl X "isinstance") (hm : X.mg "isinstance" = none) (he : PE X e (tEv T W fe)) (hc : PE X ce (tC cv)) (hk : ∀ u, RelV cv u → u = tyV' T k)
    (hs : starEach [e, ce] X.env = (false, eval e X.env) :: starEach [ce] X.env := by rfl) (hs2 : starEach [ce] X.env = (false, eval ce X.env) :: starEach [] X.env := by rfl) (hpl : (backTo pos (starEach [ce] X.env)).any (·.1) = false := by rfl) :
    PE X (.Call (.Name "isinstance" p) [e, ce] [] pos) (tEv T W (eIsi f k fe)) := by
  refine ⟨fun pins s σ H Q I h => ?_⟩
  obtain ⟨ls, st, Fz, A, w, sr, g⟩ := h
  refine wpAny_Call_Name_kw (ld_blt I hg hm PyProof.Rows.Boot.«isinstance» ?_)
  have ha : PA X [e, ce] (tCons (tEv T W fe) (tCons (tC cv) tNil)) := pa_cons he (pa_cons hc pa_nil hs2) hs
  refine PyProof.Rows.callWith_builtin1 (thn (ha.run pos pins s σ H (fun xs H1 => ∃ x, xs = [x, cv] ∧ ∃ v F B st1, Same Fz F ∧ Ap A B ∧ Wd T H1 F B st1 ∧ SR T F B ls σ ∧ Rep T F B v x ∧ Go T F B (okV T Q) (exW W σ) (isiL f [k] v st1)) I (tEv_q (tEv_seq w sr g) fun x H1 hh => ⟨x, rfl, hh⟩)) fun us s1 ⟨xs, H1, I1, r1, q1⟩ => ?_) hs hpl
  obtain ⟨x, ex, v, F, B, st1, s1', p1, w1, sr1, rp1, g1⟩ := q1
  subst ex
  obtain ⟨u1, u2, rfl, ru1, ru2⟩ := vals2 r1
  have e2 := hk _ ru2
  subst e2
  exact isi_one hI I1 w1 rp1 ru1 g1
end

/-! ### raise -/
/-- a made error's fields, f1 the first one that __init__ stores -/
def sRaise1 (c f : Nat) (e : Ev) : Sv := fun ls st => stE (e ls st) ls fun v st => some (.ex c [(f, v)] ls, st)
def sRaise2 (c f1 f2 : Nat) (e1 e2 : Ev) : Sv := fun ls st => stE (e1 ls st) ls fun v st => stE (e2 ls st) ls fun u st => some (.ex c [(f2, u), (f1, v)] ls, st)
/-- what an __init__ of one field promises -/
def spX1 (K : PySem.W.Frag) (f : Str) : Sp := fun vs H Q _ => ∃ (a C : Addr) (v : V), vs = [.ref a, v] ∧ OexC K C ∧ PySem.W.findIn K (.ref C) f = some none ∧ H a = some (exo a C none) ∧
  ∀ dx, H dx = none → dx ≠ a → Q .non (upd (upd H dx (exd dx [(f, v)])) a (exo a C (some dx)))
def spX2 (K : PySem.W.Frag) (f g : Str) : Sp := fun vs H Q _ => ∃ (a C : Addr) (v u : V), vs = [.ref a, v, u] ∧ OexC K C ∧ PySem.W.findIn K (.ref C) f = some none ∧ PySem.W.findIn K (.ref C) g = some none ∧ H a = some (exo a C none) ∧
  ∀ dx, H dx = none → dx ≠ a → Q .non (upd (upd (upd H dx (exd dx [(f, v)])) a (exo a C (some dx))) dx (exd dx [(g, u), (f, v)]))
theorem delH_made {H : Hp} {a dx : Addr} {o1 o2 o3 : HO} (na : H a = none) (ne : dx ≠ a) : upd (del (upd (upd H dx o1) a o2) a) dx o3 = upd H dx o3 := by
  funext b
  by_cases e1 : b = dx
  · subst e1; rw [upd_same, upd_same]
  · rw [upd_ne e1, upd_ne e1]
    by_cases e2 : b = a
    · subst e2; rw [del_same, na]
    · rw [del_ne e2, upd_ne e2, upd_ne e1]
theorem delH_made2 {H : Hp} {a dx : Addr} {o1 o2 o3 o4 : HO} (na : H a = none) (ne : dx ≠ a) : upd (del (upd (upd (upd H dx o1) a o2) dx o4) a) dx o3 = upd H dx o3 := by
  funext b
  by_cases e1 : b = dx
  · subst e1; rw [upd_same, upd_same]
  · rw [upd_ne e1, upd_ne e1]
    by_cases e2 : b = a
    · subst e2; rw [del_same, na]
    · rw [del_ne e2, upd_ne e1, upd_ne e2, upd_ne e1]
section
variable {X : Cx} {T : Tx X.K} {W : WX} {s : Stmt} {e e1 e2 : Expr} {fe f1 f2 : Ev} {c : Nat}
theorem es_raise1 {f : Nat} (hx : T.xfld c f = true) (oc : OexC X.K (T.cls c)) (h : ∀ {ta : TA}, PA X [e] ta → PS X s (fun _ σ H => tMkO (T.cls c) (spX1 X.K (T.nm f)) [] ta σ H fun cls d H' => W cls d σ H')) (he : PE X e (tEv T W fe))
    (hs : starEach [e] X.env = (false, eval e X.env) :: starEach [] X.env := by rfl) : PS X s (tSv T W (sRaise1 c f fe)) := PS.imp (h (pa_cons he pa_nil hs)) fun D σ H => by
  rintro ⟨ls, st, Fz, A, w, sr, g⟩
  refine tEv_q (tEv_st w sr g) fun x H1 hh => ?_
  obtain ⟨v, F, B, st1, s1, p1, w1, sr1, r1, g1⟩ := hh
  refine ⟨by show 1 ≤ 1000; omega, fun a na => ⟨a, T.cls c, x, rfl, oc, (T.xown c f hx).2, upd_same, fun dx nd ne => ?_⟩⟩
  have nd1 : H1 dx = none := by rw [upd_ne ne] at nd; exact nd
  refine ⟨rfl, dx, [(T.nm f, x)], upd_same, by rw [upd_ne ne, upd_same], nd1, ?_⟩
  rw [show upd (del (upd (upd (upd H1 a (exo a (T.cls c) none)) dx (exd dx [(T.nm f, x)])) a (exo a (T.cls c) (some dx))) a) dx (.xd [(T.nm f, x)]) = upd H1 dx (.xd [(T.nm f, x)]) from by
    funext b
    by_cases b1 : b = dx
    · subst b1; rw [upd_same, upd_same]
    · rw [upd_ne b1, upd_ne b1]
      by_cases b2 : b = a
      · subst b2; rw [del_same, na]
      · rw [del_ne b2, upd_ne b2, upd_ne b1, upd_ne b2]]
  have sm := same_upd (o := .xd [(T.nm f, x)]) (w1.fn nd1)
  exact g1 _ _ B σ (some dx) sm (Ap.refl _) (w1.new nd1 fun _ => nofun) (sr1.mono sm (Ap.refl _)) ⟨_, upd_same, .cons (r1.mono sm (Ap.refl _)) .nil, fun p hp => by
    rw [List.mem_singleton] at hp; subst hp; exact hx⟩
theorem es_raise2 {fa fb : Nat} (hxa : T.xfld c fa = true) (hxb : T.xfld c fb = true) (oc : OexC X.K (T.cls c)) (h : ∀ {ta : TA}, PA X [e1, e2] ta → PS X s (fun _ σ H => tMkO (T.cls c) (spX2 X.K (T.nm fa) (T.nm fb)) [] ta σ H fun cls d H' => W cls d σ H'))
    (he1 : PE X e1 (tEv T W f1)) (he2 : PE X e2 (tEv T W f2)) (hs : starEach [e1, e2] X.env = (false, eval e1 X.env) :: starEach [e2] X.env := by rfl) (hs2 : starEach [e2] X.env = (false, eval e2 X.env) :: starEach [] X.env := by rfl) :
    PS X s (tSv T W (sRaise2 c fa fb f1 f2)) := PS.imp (h (pa_cons he1 (pa_cons he2 pa_nil hs2) hs)) fun D σ H => by
  rintro ⟨ls, st, Fz, A, w, sr, g⟩
  refine tEv_q (tEv_st w sr g) fun x H0 hh => ?_
  obtain ⟨v, F0, B0, st0, s0, p0, w0, sr0, r0, g0⟩ := hh
  refine tEv_q (tEv_st w0 sr0 g0) fun y H1 hh => ?_
  obtain ⟨u, F, B, st1, s1, p1, w1, sr1, r1, g1⟩ := hh
  refine ⟨by show 2 ≤ 1000; omega, fun a na => ⟨a, T.cls c, x, y, rfl, oc, (T.xown c fa hxa).2, (T.xown c fb hxb).2, upd_same, fun dx nd ne => ?_⟩⟩
  have nd1 : H1 dx = none := by rw [upd_ne ne] at nd; exact nd
  refine ⟨rfl, dx, [(T.nm fb, y), (T.nm fa, x)], by rw [upd_ne (Ne.symm ne), upd_same], upd_same, nd1, ?_⟩
  rw [show upd (del (upd (upd (upd (upd H1 a (exo a (T.cls c) none)) dx (exd dx [(T.nm fa, x)])) a (exo a (T.cls c) (some dx))) dx (exd dx [(T.nm fb, y), (T.nm fa, x)])) a) dx (.xd [(T.nm fb, y), (T.nm fa, x)]) = upd H1 dx (.xd [(T.nm fb, y), (T.nm fa, x)]) from by
    funext b
    by_cases b1 : b = dx
    · subst b1; rw [upd_same, upd_same]
    · rw [upd_ne b1, upd_ne b1]
      by_cases b2 : b = a
      · subst b2; rw [del_same, na]
      · rw [del_ne b2, upd_ne b1, upd_ne b2, upd_ne b1, upd_ne b2]]
  have sm := same_upd (o := .xd [(T.nm fb, y), (T.nm fa, x)]) (w1.fn nd1)
  exact g1 _ _ B σ (some dx) sm (Ap.refl _) (w1.new nd1 fun _ => nofun) (sr1.mono sm (Ap.refl _)) ⟨_, upd_same, .cons (r1.mono sm (Ap.refl _)) (.cons ((r0.mono s1 p1).mono sm (Ap.refl _)) .nil), fun p hp => by
    rcases List.mem_cons.mp hp with e | hp
    · rw [e]; exact hxb
    · rw [List.mem_singleton] at hp; subst hp; exact hxa⟩
end
end EL

set_option Elab.async false
set_option linter.all false
set_option maxRecDepth 100000
set_option maxHeartbeats 1000000
/-! EL8: try .. except X as n, the error kept as a value. -/
namespace EL
open PySem PySem.Spec PyProof.Rows L2

/-- an error's object at a -/
def exB (C a : Addr) (d : Option Addr) : HO := .ext fun h => ∃ (oe : Obj) (vs : Array Value), h.get? a = some oe ∧ Zc (.ref C) d oe ∧ oe.data = .fields vs
theorem exB_at (C a : Addr) (d : Option Addr) : ExAt (exB C a d) a C d := ⟨_, rfl, fun _ h => h⟩
section
variable {X : Cx} {pins : List (Addr × Obj)} {σ : L2.St} {H : Hp} {s : Shared}
/-- an object that came since the entry and was not tracked is tracked from now on -/
theorem Inv.adopt {a : Addr} {o : HO} (I : Inv X pins σ H s) (hn : H a = none) (h0 : X.s_0.heap.get? a = none) (nL : X.env.locals ≠ a) (nC : ∀ x c, X.env.cells.lookup x = some c → c ≠ a) (nP : ∀ p ∈ X.pn ++ pins, p.1 ≠ a)
    (ok : ObjOk X.prog X.w (upd H a o) s.heap a o) : Inv X pins σ (upd H a o) s := by
  have n0 : ∀ b u, X.s_0.heap.get? b = some u → b ≠ a := fun b u e z => by rw [z, h0] at e; cases e
  have nt : ∀ b u, H b = some u → b ≠ a := fun b u e => ne_of_none e hn
  refine ⟨I.ok, I.os, I.bare, ⟨I.base.keep, I.base.slot, fun b u e n hx => ?_, I.base.there, fun b xs e => ?_, fun b u xs e => ?_, fun b ps e => ?_⟩, I.loc, I.cell, ?_, fun x c e => ?_, fun p hp => ?_, fun b u e => ?_, I.len⟩
  · rw [upd_ne (n0 b u e)]; exact I.base.free b u e n hx
  · have q := I.base.tups b xs e; rw [upd_ne (nt b _ q)]; exact q
  · have q := I.base.frzs b u xs e; rw [upd_ne (nt b _ q)]; exact q
  · obtain ⟨m, q⟩ := I.base.tbls b ps e; exact ⟨m, by rw [upd_ne (nt b _ q)]; exact q⟩
  · rw [upd_ne nL]; exact I.free
  · rw [upd_ne (nC x c e)]; exact I.freeC x c e
  · obtain ⟨e1, e2, e3, e4, e5⟩ := I.pin p hp
    exact ⟨e1, by rw [upd_ne (nP p hp)]; exact e2, e3, e4, e5⟩
  · by_cases hb : b = a
    · subst hb; rw [upd_same] at e; cases e; exact ok
    · rw [upd_ne hb] at e
      exact (I.hok b u e).stay (fun _ _ _ q => q) (fun c q => by rw [upd_ne (nt c _ q)]; exact q) fun c xs q => by rw [upd_ne (nt c _ q)]; exact q
theorem Inv.inSuite (I : Inv X pins σ H s) (a : Addr) : Inv (X.suite a (X.pn ++ pins)) [] σ H s :=
  ⟨I.ok.suite _ _, I.os, I.bare, I.base, I.loc, I.cell, I.free, I.freeC, fun p hp => I.pin p (by rw [List.append_nil] at hp; exact hp), I.hok, I.len⟩
theorem Inv.outSuite {a : Addr} {pn' : List (Addr × Obj)} (I : Inv (X.suite a (X.pn ++ pins)) pn' σ H s) (ok : X.Ok) : Inv X pins σ H s :=
  ⟨ok, I.os, I.bare, I.base, I.loc, I.cell, I.free, I.freeC, fun p hp => I.pin p (List.mem_append_left _ hp), I.hok, I.len⟩
end

def unb (i : Nat) : Sz → Sz
  | some (.nx ls, st) => some (.nx (ls.set i .none), st)
  | some (.bk ls, st) => some (.bk (ls.set i .none), st)
  | some (.ct ls, st) => some (.ct (ls.set i .none), st)
  | some (.rt v, st) => some (.rt v, st)
  | _ => .none
def hnd (sub : Nat → Option Bool) (i : Nat) (f : Sv) (c : Nat) (fs : List (Nat × LV)) (ls : Ls) (st : Sto) : Sz := match sub c with
  | some true => unb i (f (ls.set i (some (.exc c fs))) st)
  | some false => some (.ex c fs ls, st)
  | .none => .none
/-- try: b / except X as n: f; sub c: whether errors of the class c are caught; i: the slot of n -/
def sTry (sub : Nat → Option Bool) (i : Nat) (b f : Sv) : Sv := fun ls st => match b ls st with
  | some (.ex c fs ls', st') => hnd sub i f c fs ls' st'
  | r => r
section
variable {X : Cx} {T : Tx X.K} {W : WX} {x n : Str} {cv : Value} {i : Nat} {body suite : List Stmt} {b₀ : Stmt} {np pos pos' : Pos} {fb fs : Sv} {sub : Nat → Option Bool}
/-- the ends of an except suite -/
abbrev sufD (D : Ends) (i : Nat) : Ends := { nx := fun σ H => D.nx (σ.set i none) H, rt := D.rt, bk := fun σ H => D.bk (σ.set i none) H, ct := fun σ H => D.ct (σ.set i none) H }
theorem GoS.unb {K : PySem.W.Frag} {T : Tx K} {W : WX} {D : Ends} {Fz : Hp} {A : Ad} {z : Sz} (g : GoS T W D Fz A (unb i z)) : GoS T (fun _ _ _ _ => False) (sufD D i) Fz A z := by
  match z, g with
  | some (.nx ls, st), g => exact fun H F B σ h1 h2 w sr => g H F B _ h1 h2 w (sr.unset i)
  | some (.bk ls, st), g => exact fun H F B σ h1 h2 w sr => g H F B _ h1 h2 w (sr.unset i)
  | some (.ct ls, st), g => exact fun H F B σ h1 h2 w sr => g H F B _ h1 h2 w (sr.unset i)
  | some (.rt v, st), g => exact g
/-- what the body's errors meet -/
def wTr {K : PySem.W.Frag} (T : Tx K) (W : WX) (sub : Nat → Option Bool) (i : Nat) (f : Sv) (D : Ends) : WX := fun cls d σ H => ∃ c fs ls st F B, cls = .ref (T.cls c) ∧ Wd T H F B st ∧ SR T F B ls σ ∧ ExRep T F B c fs d ∧ GoS T W D F B (hnd sub i f c fs ls st)
theorem GoS.try {D : Ends} {Fz : Hp} {A : Ad} {ls : Ls} {st : Sto} (g : GoS T W D Fz A (sTry sub i fb fs ls st)) : GoS T (wTr T W sub i fs D) D Fz A (fb ls st) := by
  unfold sTry at g
  cases e : fb ls st with
  | none => rw [e] at g; exact g
  | some y =>
    rw [e] at g
    match y, g with
    | (.nx ls', st'), g => exact g
    | (.bk ls', st'), g => exact g
    | (.ct ls', st'), g => exact g
    | (.rt v, st'), g => exact g
    | (.ex c fs' ls', st'), g => exact fun H F B σ d h1 h2 w sr ex => ⟨c, fs', ls', st', F, B, rfl, w, sr, ex, GoS.mono h1 h2 g⟩
theorem es_try (hs : X.stack = X.env :: X.outer) (hex : X.ex = []) (hf : X.env.frame = some X.env.locals) (hN : X.N.Nodup) (hi : X.N[i]? = some n) (hln : X.env.kindOf n = some .local) (hc : Names X x cv) (tk : Takes X W)
    (hsub : ∀ c b, sub c = some b → PySem.W.exmOne X.K (.ref (T.cls c)) cv = some b)
    (hb : ∀ (W' : WX) (pn : List (Addr × Obj)) (xe : Value → Shared → Prop), Takes (X.tr pn xe) W' → PassesOwn (model X.prog X.w) X.A X.env xe → PSs (X.tr pn xe) body (tSv T W' fb))
    (hsu : ∀ (a : Addr) (pn : List (Addr × Obj)), PSs (X.suite a pn) (b₀ :: suite) (tSv T (fun _ _ _ _ => False) fs)) :
    PS X (.Try body [.ExceptHandler (some (.Name x np)) (some n) (b₀ :: suite) pos'] [] [] pos) (tSv T W (sTry sub i fb fs)) := by
  refine ⟨fun pins s σ H D I h => ?_⟩
  obtain ⟨ls, st, Fz, Ad, wd, sr, g⟩ := h
  have ok := I.ok
  have hfr : X.A.frames = some (X.env :: X.outer) := by rw [ok.frames, hs]
  refine wpAny_Try_except ?_
  refine wpAny_mono ((hb (wTr T W sub i fs D) (X.pn ++ pins) (fun e s₁ => wpAny (model X.prog X.w) X.A (noteFrame e X.env) (fun _ s₂ => wpAny (model X.prog X.w) X.A (setFlight e none) (fun _ s₃ =>
    wpAny (model X.prog X.w) X.A (handleBy e X.env [.ExceptHandler (some (.Name x np)) (some n) (b₀ :: suite) pos']) (SP X pins D) X.xe s₃) X.xe s₂) X.xe s₁) (fun u s' xx => ?_) PassesOwn.looking).run [] s σ H D (I.toTry _) ⟨ls, st, Fz, Ad, wd, sr, g.try⟩) (fun f s1 hsp => ?_) (fun e s1 he => he)
  · obtain ⟨a, G, sI, pins', σ', H', cls, d, rfl, J', nb, up, sky, na, os, ag, c, fs', ls', st', F, B, rfl, w', sr', ex', g'⟩ := xx
    have J : Inv X pins σ' H' sI := J'.ofTry ok
    have sky' : Sky G (X.env :: X.outer) a (Zc (.ref (T.cls c)) d) X.env.locals s'.heap := by rw [← hs]; exact sky
    refine Sky.land Zc.steady hfr hf sky' fun h3 fl3 up3 => ?_
    have J3 : Inv X pins σ' H' { s' with heap := h3 } := J.landed nb fl3.1 (up.trans up3) os ag
    obtain ⟨oe3, vs3, he3, hz3, hd3⟩ := fl3.there
    have nfr : a ∉ frs (X.env :: X.outer) := fun hm => by
      obtain ⟨_, o', e', hnf⟩ := fl3.2.2.1.mem hm
      rw [he3] at e'; cases e'
      exact hnf _ hd3
    have nL : X.env.locals ≠ a := fun z => nfr (List.mem_filterMap.mpr ⟨X.env, List.mem_cons_self, by rw [hf, z]⟩)
    have nF : a ∉ X.fs := fun hm => by
      obtain ⟨e, he, q⟩ := List.mem_filterMap.mp hm
      exact nfr (List.mem_filterMap.mpr ⟨e, List.mem_cons_of_mem _ he, q⟩)
    have nI : sI.heap.get? a = none := by
      cases e : sI.heap.get? a with
      | none => rfl
      | some o =>
        have q := nb a o e (by rw [hs]; exact nfr)
        rw [fl3.2.1] at q; cases q
    have n0 : X.s_0.heap.get? a = none := by
      cases e : X.s_0.heap.get? a with
      | none => rfl
      | some o =>
        obtain ⟨o', q⟩ := J.base.there a o e (by rw [hex]; exact fun z => nomatch z)
        rw [nI] at q; cases q
    have nP : ∀ p ∈ X.pn ++ pins, p.1 ≠ a := fun p hp z => by
      obtain ⟨q, _⟩ := J.pin p hp
      rw [z, nI] at q; cases q
    have fn : F a = none := w'.fn na
    -- the handler, whichever way the class goes
    have ans : ∃ b, sub c = some b := by
      unfold hnd at g'
      cases e : sub c with
      | none => rw [e] at g'; exact g'.elim
      | some b => exact ⟨b, rfl⟩
    obtain ⟨b, hb0⟩ := ans
    have hb1 := hsub c b hb0
    unfold hnd at g'
    rw [hb0] at g'
    have S3 : Inv (X.suite a (X.pn ++ pins)) [] σ' H' { s' with heap := h3 } := Inv.inSuite J3 a
    refine wpAny_handleBy_cons (codeAny_handlers_test ?_) (by intro q; cases q)
    have LT : PySem.W.Looks (model X.prog X.w) h3 (typeOf (.ref a)) (.ref (T.cls c)) := fun A Q E s k q => wpAny_typeOf_ref (k _ _ he3) (by rw [hz3.1]; exact q)
    have LM := PySem.W.exm_one (M := model X.prog X.w) J3.kIn LT hb1
    have test : ∀ {Q : Value → Shared → Prop} {E : Value → Shared → Prop}, Q cv { s' with heap := h3 } → wpAny (model X.prog X.w) (X.A.mark (some (.ref a))) (eval (.Name x np) X.env) Q E { s' with heap := h3 } := fun {Q E} q => by
      obtain ⟨hg, hdbg, hm | ⟨hm, hv, hnn⟩⟩ := hc
      · exact ld_glob (X := X.suite a (X.pn ++ pins)) S3 hg hm q hdbg
      · exact ld_blt (X := X.suite a (X.pn ++ pins)) S3 hg hm hv q hnn hdbg
    refine test (LM.here ?_)
    cases b with
    | true =>
      refine codeAny_handlers_suite_as (HandSPX.lands_againZ fl3 fun h4 fl4 up4 => ?_)
      have J4 : Inv X pins σ' H' { s' with heap := h4 } := J.landed nb fl4.1 ((up.trans up3).trans up4) os ag
      obtain ⟨oe4, vs4, he4, hz4, hd4⟩ := fl4.there
      have nC : ∀ y c', X.env.cells.lookup y = some c' → c' ≠ a := fun y c' e z => by
        obtain ⟨v, o, ho, hd⟩ := J4.cell y c' e
        rw [z] at ho
        rw [he4] at ho; cases ho
        rw [hd4] at hd; cases hd
      have J5 : Inv X pins σ' (upd H' a (exB (T.cls c) a d)) { s' with heap := h4 } := Inv.adopt J4 na n0 nL nC nP
        ⟨⟨oe4, vs4, he4, hz4, hd4⟩, ⟨oe4, he4⟩, fun h1 h2 ⟨o, v, q, r⟩ k => ⟨o, v, k o q, r⟩⟩
      have sm := same_upd (o := exB (T.cls c) a d) fn
      have w5 : Wd T (upd H' a (exB (T.cls c) a d)) (upd F a (exB (T.cls c) a d)) B st' := w'.new na fun ps z => nomatch z
      have rx : Rep T (upd F a (exB (T.cls c) a d)) B (.exc c fs') (.ref a) := by
        cases d with
        | none =>
          have e : fs' = [] := ex'
          subst e
          exact .exc0 upd_same (exB_at _ _ _)
        | some dd =>
          obtain ⟨vs, h1, h2, h3⟩ := ex'
          exact .exc upd_same (exB_at _ _ _) (sm _ _ h1) (.inl rfl) (h2.mono sm (Ap.refl _)) h3
      refine store_ok (X := X.suite a (X.pn ++ pins)) (v := .ref a) (Inv.inSuite J5 a) hN hi (.inl hln) rfl (fun s5 S5 => ?_) (.inr hln)
      refine wpAny_mono ((hsu a (X.pn ++ pins)).run [] s5 _ _ (sufD D i) S5 ⟨_, st', _, B, w5, (sr'.mono sm (Ap.refl _)).set rx i, (GoS.unb g').mono sm (Ap.refl _)⟩) (fun f s6 hsp => ?_) fun _ _ z => False.elim z
      have end_ : ∀ {σ6 : L2.St} {H6 : Hp} {Q : Shared → Prop}, Inv (X.suite a (X.pn ++ pins)) [] σ6 H6 s6 → (∀ s7, Inv X pins (σ6.set i none) H6 s7 → Q s7) →
          wpAny (model X.prog X.w) X.A (do bindName X.env n .none; unbindBehindTheSuite X.env n pos') (fun _ s7 => Q s7) X.xe s6 := fun {σ6 H6 Q} S6 hq => gone_ok (Inv.outSuite S6 ok) hN hi hln hq
      cases f with
      | next =>
        obtain ⟨σ6, H6, S6, q6⟩ := hsp
        exact end_ S6 fun s7 J7 => ⟨_, _, J7, q6⟩
      | brk =>
        obtain ⟨σ6, H6, S6, q6⟩ := hsp
        exact end_ S6 fun s7 J7 => ⟨_, _, J7, q6⟩
      | cont =>
        obtain ⟨σ6, H6, S6, q6⟩ := hsp
        exact end_ S6 fun s7 J7 => ⟨_, _, J7, q6⟩
      | ret u =>
        obtain ⟨v6, σ6, H6, S6, r6, q6⟩ := hsp
        exact end_ S6 fun s7 J7 => ⟨_, _, _, J7, r6, q6⟩
    | false =>
      show wpAny _ X.A (handleBy (.ref a) X.env []) _ _ _
      refine wpAny_handleBy_nil ?_
      obtain ⟨k1, k2, k3, oe, vs, Tr, oT, ts', he, hz, hd, h1, hr⟩ := id fl3
      unfold PySem.passOn
      refine wpAny_bind (wpAny_field he hd h1 ?_)
      rw [if_neg (show ¬ ((Value.ref Tr == Value.none) = true) from by simp)]
      have fin : wpAny (model X.prog X.w) X.A (setFlight (.ref a) X.env.frame) (fun _ s4 => wpAny (model X.prog X.w) X.A (throw (.ref a) : Sem Flow) (SP X pins D) X.xe s4) X.xe { s' with heap := h3 } := by
        rw [hf]
        refine HandSPX.setFlight_upZ fl3 fun h4 hh4 up4 => wpAny_throw (tk _ _ ?_)
        exact ⟨a, G, sI, pins, σ', H', _, d, rfl, J, nb, (up.trans up3).trans up4, .inr (.inr (by rw [hs]; exact hh4)), na, os, ag, g' H' F B σ' d (Same.refl _) (Ap.refl _) w' sr' ex'⟩
      first
        | exact wpAny_bind (wpAny_pure (wpAny_bind fin))
        | exact wpAny_bind fin
  · cases f with
    | next =>
      obtain ⟨σ', H', J', q⟩ := hsp
      exact wpAny_execs_nil ⟨σ', H', J'.ofTry ok, q⟩
    | brk =>
      obtain ⟨σ', H', J', q⟩ := hsp
      exact ⟨σ', H', J'.ofTry ok, q⟩
    | cont =>
      obtain ⟨σ', H', J', q⟩ := hsp
      exact ⟨σ', H', J'.ofTry ok, q⟩
    | ret u =>
      obtain ⟨v, σ', H', J', r, q⟩ := hsp
      exact ⟨v, σ', H', J'.ofTry ok, r, q⟩
end
end EL

set_option Elab.async false
set_option linter.all false
set_option maxRecDepth 100000
set_option maxHeartbeats 1000000
/-! EL9: targets, what is walked, for, while, comprehensions. -/
namespace EL
open PySem PySem.Spec PyProof.Rows L2

/-! ### targets -/
abbrev Tg := LV → Ls → Option Ls
abbrev Tgs := List LV → Ls → Option Ls
def gN (i : Nat) : Tg := fun v ls => some (ls.set i (some v))
def gsN : Tgs := fun vs ls => match vs with
  | [] => some ls
  | _ => .none
def gsC (g : Tg) (gs : Tgs) : Tgs := fun vs ls => match vs with
  | v :: r => match g v ls with
    | some ls => gs r ls
    | .none => .none
  | [] => .none
def gT (n : Nat) (gs : Tgs) : Tg := fun v ls => match v with
  | .tup xs => if xs.length = n then gs xs ls else .none
  | _ => .none
section
variable {K : PySem.W.Frag} (T : Tx K)
def vG (g : Tg) (sl : List Nat) : TG := fun x σ H Q => ∃ v ls ls' Fz A st, Wd T H Fz A st ∧ Rep T Fz A v x ∧ SR T Fz A ls σ ∧ g v ls = some ls' ∧
  ∀ σ', SR T Fz A ls' σ' → σ'.length = σ.length → (∀ j, j ∉ sl → σ'[j]? = σ[j]?) → Q σ' H
def vGs (gs : Tgs) (sl : List Nat) : TGs := fun xs σ H Q => ∃ vs ls ls' Fz A st, Wd T H Fz A st ∧ Reps T Fz A vs xs ∧ SR T Fz A ls σ ∧ gs vs ls = some ls' ∧
  ∀ σ', SR T Fz A ls' σ' → σ'.length = σ.length → (∀ j, j ∉ sl → σ'[j]? = σ[j]?) → Q σ' H
end
theorem PG.imp {X : Cx} {e : Expr} {t t' : TG} (h : PG X e t) (i : ∀ v σ H Q, t' v σ H Q → t v σ H Q) : PG X e t' := ⟨fun pins s σ H v u Q I r q => h.run pins s σ H v u Q I r (i _ _ _ _ q)⟩
theorem PGs.imp {X : Cx} {e : List Expr} {t t' : TGs} (h : PGs X e t) (i : ∀ v σ H Q, t' v σ H Q → t v σ H Q) : PGs X e t' := ⟨fun pins s σ H v u Q I r q => h.run pins s σ H v u Q I r (i _ _ _ _ q)⟩
section
variable {X : Cx} {T : Tx X.K} {e : Expr} {es : List Expr} {g : Tg} {gs : Tgs} {sl sl' : List Nat} {pos : Pos}
theorem eg_name {i : Nat} (h : PG X e (gName i)) : PG X e (vG T (gN i) [i]) := PG.imp h fun v σ H Q => by
  rintro ⟨lv, ls, ls', Fz, A, st, w, r, sr, hg, q⟩
  cases hg
  exact q _ (sr.set r i) (by simp) fun j hj => List.getElem?_set_ne (fun z => hj (by rw [z]; exact List.mem_singleton.mpr rfl))
theorem egs_nil : PGs X [] (vGs T gsN []) := PGs.imp pgs_nil fun v σ H Q => by
  rintro ⟨lv, ls, ls', Fz, A, st, w, r, sr, hg, q⟩
  cases r with
  | nil => cases hg; exact ⟨rfl, q _ sr rfl fun _ _ => rfl⟩
  | cons _ _ => cases hg
theorem egs_cons (h1 : PG X e (vG T g sl)) (h2 : PGs X es (vGs T gs sl')) (hs : (assignEach (e :: es) X.env).map (·.2) = assign e X.env :: (assignEach es X.env).map (·.2) := by rfl) : PGs X (e :: es) (vGs T (gsC g gs) (sl ++ sl')) := PGs.imp (pgs_cons h1 h2 hs) fun v σ H Q => by
  rintro ⟨lv, ls, ls', Fz, A, st, w, r, sr, hg, q⟩
  cases r with
  | nil => cases hg
  | cons r rr =>
    simp only [gsC] at hg
    split at hg
    · rename_i ls1 h1
      refine ⟨_, _, rfl, _, ls, ls1, Fz, A, st, w, r, sr, h1, fun σ1 sr1 l1 k1 => ?_⟩
      exact ⟨_, ls1, ls', Fz, A, st, w, rr, sr1, hg, fun σ2 sr2 l2 k2 => q σ2 sr2 (l2.trans l1) fun j hj => (k2 j fun z => hj (List.mem_append_right _ z)).trans (k1 j fun z => hj (List.mem_append_left _ z))⟩
    · cases hg
theorem eg_tup {k n : Nat} (hc : X.calm = true) (h : PGs X es (vGs T gs sl)) (hn : (assignEach es X.env).length = n := by rfl) (hst : (assignEach es X.env).findIdx? (·.1) = none := by rfl) : PG X (.Tuple es k pos) (vG T (gT n gs) sl) := PG.imp (pg_tup hc h hn hst) fun v σ H Q => by
  rintro ⟨lv, ls, ls', Fz, A, st, w, r, sr, hg, q⟩
  unfold gT at hg
  split at hg
  · split at hg
    · rename_i hl
      cases r with
      | tup h r => exact ⟨_, _, rfl, sqT_mono w.fz h, by rw [← r.length]; exact hl, _, ls, ls', Fz, A, st, w, r, sr, hg, q⟩
    · cases hg
  · cases hg
/-- target = e -/
def sAsg (e : Ev) (g : Tg) : Sv := fun ls st => stE (e ls st) ls fun v st => match g v ls with
  | some ls => some (.nx ls, st)
  | .none => .none
theorem es_asg {W : WX} {s : Stmt} {fe : Ev} (h : PS X s (tAsg (tEv T W fe) (vG T g sl))) : PS X s (tSv T W (sAsg fe g)) := PS.imp h fun D σ H => by
  rintro ⟨ls, st, Fz, A, w, sr, q⟩
  refine tEv_q (tEv_st w sr q) fun x H' hh => ?_
  obtain ⟨v, F, B, st1, s1, p1, w1, sr1, r1, g1⟩ := hh
  split at g1
  · rename_i ls' hg
    exact ⟨v, ls, ls', F, B, st1, w1, r1, sr1, hg, fun σ' sr' _ _ => g1.nx w1 sr'⟩
  · exact g1.elim
/-- a, b = e1, e2 of local names -/
def sPar (i j : Nat) (r : Av) : Sv := fun ls st => stE (r ls st) ls fun vs st => match vs with
  | [v, w] => some (.nx ((ls.set i (some v)).set j (some w)), st)
  | _ => .none
def sPar3 (i j l : Nat) (r : Av) : Sv := fun ls st => stE (r ls st) ls fun vs st => match vs with
  | [v, w, u] => some (.nx (((ls.set i (some v)).set j (some w)).set l (some u)), st)
  | _ => .none
theorem es_par {W : WX} {s : Stmt} {fr : Av} {i j : Nat} (h : PS X s (tPar i j (tAv T W fr))) : PS X s (tSv T W (sPar i j fr)) := PS.imp h fun D σ H => by
  rintro ⟨ls, st, Fz, A, w, sr, q⟩
  refine tAv_q (tAv_st w sr q) fun xs H' hh => ?_
  obtain ⟨vs, F, B, st1, s1, p1, w1, sr1, r1, g1⟩ := hh
  split at g1
  · cases r1 with
    | cons ra r1 => cases r1 with
      | cons rb r1 =>
        cases r1
        exact ⟨_, _, rfl, g1.nx w1 ((sr1.set ra i).set rb j)⟩
  · exact g1.elim
theorem es_par3 {W : WX} {s : Stmt} {fr : Av} {i j l : Nat} (h : PS X s (tPar3 i j l (tAv T W fr))) : PS X s (tSv T W (sPar3 i j l fr)) := PS.imp h fun D σ H => by
  rintro ⟨ls, st, Fz, A, w, sr, q⟩
  refine tAv_q (tAv_st w sr q) fun xs H' hh => ?_
  obtain ⟨vs, F, B, st1, s1, p1, w1, sr1, r1, g1⟩ := hh
  split at g1
  · cases r1 with
    | cons ra r1 => cases r1 with
      | cons rb r1 => cases r1 with
        | cons rc r1 =>
          cases r1
          exact ⟨_, _, _, rfl, g1.nx w1 (((sr1.set ra i).set rb j).set rc l)⟩
  · exact g1.elim
end

/-! ### what is walked -/
abbrev Iv := Ls → Sto → Rz (List LV)
def YOk {K : PySem.W.Frag} (T : Tx K) (Fz : Hp) (A : Ad) (items : List LV) (Y : Nat → Hp → V → Hp → Prop) : Prop := ∀ i H x H2 v, items[i]? = some v → Y i H x H2 →
  (H2 = H ∧ Rep T Fz A v x) ∨ ∃ p vs ls, H p = none ∧ H2 = upd H p (.tup vs) ∧ x = .ref p ∧ v = .tup ls ∧ Reps T Fz A ls vs
def IterOk {K : PySem.W.Frag} (T : Tx K) (Fz : Hp) (A : Ad) (items : List LV) (J : It) : Prop := ∃ G Y, Walk J items.length G Y ∧ (∀ H2, Same Fz H2 → G H2) ∧ YOk T Fz A items Y
structure ESrc (X : Cx) (T : Tx X.K) (W : WX) (tg iter : Expr) (src : Iv) : Prop where
  ex : ∃ wi, PI X tg iter wi ∧ ∀ σ H (R : It → Hp → Prop) ls st Fz A, Wd T H Fz A st → SR T Fz A ls σ → Go T Fz A (fun items H' F B _ => ∀ J, IterOk T F B items J → R J H') (exW W σ) (src ls st) → wi σ H R
theorem PI.imp {X : Cx} {tg e : Expr} {t t' : TI} (h : PI X tg e t) (i : ∀ σ H R, t' σ H R → t σ H R) : PI X tg e t' := ⟨fun pins s σ H R I q => h.run pins s σ H R I (i _ _ _ q)⟩
theorem PI.or {X : Cx} {tg e : Expr} {t t' : TI} (h : PI X tg e t) (h' : PI X tg e t') : PI X tg e (fun σ H R => t σ H R ∨ t' σ H R) := ⟨fun pins s σ H R I q => q.elim (h.run pins s σ H R I) (h'.run pins s σ H R I)⟩
section
variable {X : Cx} {T : Tx X.K} {W : WX} {tg e : Expr} {fe : Ev} {fr : Av} {p pos : Pos}
/-- a list or a tuple that never changes -/
def iSeq (e : Ev) : Iv := fun ls st => bnd (e ls st) fun v st => match v with
  | .tup xs => some (.ok xs, st)
  | .lst xs => some (.ok xs, st)
  | _ => .none
theorem ei_seq (he : PE X e (tEv T W fe)) : ESrc X T W tg e (iSeq fe) := ⟨_, PI.or (pi_list he) (pi_tup he), fun σ H R ls st Fz A w sr g => by
  have yes : ∀ {items : List LV} {F : Hp} {B : Ad} {vs : List V}, Reps T F B items vs → YOk T F B items (YAt vs) := fun {items F B vs} r i H x H2 v hv hy => by
    obtain ⟨e1, e2⟩ := hy
    obtain ⟨y, h1, h2⟩ := r.get hv
    rw [e2] at h1; cases h1
    exact .inl ⟨e1, h2⟩
  have tupS : ∀ {items : List LV} {F : Hp} {B : Ad} {x : V}, Rep T F B (.tup items) x → ∃ a vs, x = .ref a ∧ SqT X.K F a vs ∧ Reps T F B items vs := fun r => by
    cases r with | tup h r => exact ⟨_, _, rfl, h, r⟩
  have lstS : ∀ {items : List LV} {F : Hp} {B : Ad} {x : V}, Rep T F B (.lst items) x → ∃ a vs, x = .ref a ∧ SqL X.K F a vs ∧ Reps T F B items vs := fun r => by
    cases r with | lst h r => exact ⟨_, _, rfl, h, r⟩
  cases hv : fe ls st with
  | none => unfold iSeq at g; rw [hv] at g; exact g.elim
  | some y =>
    obtain ⟨z, st1⟩ := y
    cases z with
    | ex c fs =>
      unfold iSeq at g; rw [hv] at g
      exact .inl ⟨ls, st, Fz, A, w, sr, by rw [hv]; exact g⟩
    | ok v =>
      unfold iSeq at g; rw [hv] at g
      simp only [bnd] at g
      split at g
      · rename_i xs
        refine .inr ⟨ls, st, Fz, A, w, sr, ?_⟩
        rw [hv]
        intro H' F B h1 h2 w' x r
        obtain ⟨a, vs, e1, hS, rr⟩ := tupS r
        refine ⟨a, e1, ⟨vs, sqT_mono w'.fz hS⟩, g H' F B h1 h2 w' _ ⟨_, _, ?_, fun H2 s2 => sqT_mono s2 hS, yes rr⟩⟩
        rw [rr.length]; exact walk_tup
      · rename_i xs
        refine .inl ⟨ls, st, Fz, A, w, sr, ?_⟩
        rw [hv]
        intro H' F B h1 h2 w' x r
        obtain ⟨a, vs, e1, hS, rr⟩ := lstS r
        refine ⟨a, e1, ⟨vs, w'.fz.seq hS⟩, g H' F B h1 h2 w' _ ⟨_, _, ?_, fun H2 s2 => s2.seq hS, yes rr⟩⟩
        rw [rr.length]; exact walk_list
      · exact g.elim⟩
/-- range(n), range(a, b) -/
def iRange (r : Av) : Iv := fun ls st => bnd (r ls st) fun vs st => match vs with
  | [.int j] => if j < 1000000 ∧ -1000000 < j then some (.ok ((List.range j.toNat).map fun (k : Nat) => LV.int (0 + (k : Int))), st) else .none
  | [.int i, .int j] => if (j < 1000000 ∧ -1000000 < j) ∧ i < 1000000 ∧ -1000000 < i then some (.ok ((List.range (j - i).toNat).map fun (k : Nat) => LV.int (i + (k : Int))), st) else .none
  | _ => .none
theorem reps1 {K : PySem.W.Frag} {T : Tx K} {Fz : Hp} {A : Ad} {i : Int} {xs : List V} (r : Reps T Fz A [.int i] xs) : xs = [.int i] := by
  cases r with | cons h r => cases h; cases r; rfl
theorem reps2 {K : PySem.W.Frag} {T : Tx K} {Fz : Hp} {A : Ad} {i j : Int} {xs : List V} (r : Reps T Fz A [.int i, .int j] xs) : xs = [.int i, .int j] := by
  cases r with | cons h r => cases h; cases r with | cons h r => cases h; cases r; rfl
theorem yok_range {K : PySem.W.Frag} {T : Tx K} {F : Hp} {B : Ad} {lo : Int} {n : Nat} : YOk T F B ((List.range n).map fun (k : Nat) => LV.int (lo + (k : Int))) (YFn fun i => .int (lo + i)) := fun i H x H2 v hv hy => by
  obtain ⟨e1, e2⟩ := hy
  rw [List.getElem?_map] at hv
  cases q : (List.range n)[i]? with
  | none => rw [q] at hv; cases hv
  | some k =>
    rw [q] at hv
    have hk : k = i := by
      obtain ⟨h1, h2⟩ := List.getElem?_eq_some_iff.mp q
      rw [List.getElem_range] at h2; exact h2.symm
    subst hk
    cases hv
    subst e2
    exact .inl ⟨e1, .int _⟩
theorem ei_range1 (hg : Gl X "range") (hm : X.mg "range" = none) (ha : EA X T W [e] fr) (hs : starEach [e] X.env = [(false, eval e X.env)] := by rfl) : ESrc X T W tg (.Call (.Name "range" p) [e] [] pos) (iRange fr) := ⟨_, pi_range1 hg hm ha.pa hs, fun σ H R ls st Fz A w sr g => by
  refine tAv_q (tAv_len ha.len w sr g) fun xs H1 hh => ?_
  obtain ⟨vs, F, B, st1, s1, p1, w1, sr1, r1, hl, g1⟩ := hh
  split at g1
  · rename_i j
    split at g1
    · rename_i hj
      refine ⟨j, reps1 r1, by omega, by omega, g1.ok w1 _ ⟨_, _, ?_, fun _ _ => trivial, yok_range⟩⟩
      rw [List.length_map, List.length_range]; exact walk_range
    · exact g1.elim
  · cases hl
  · exact g1.elim⟩
theorem ei_range2 {e2 : Expr} (hg : Gl X "range") (hm : X.mg "range" = none) (ha : EA X T W [e, e2] fr) (hs : starEach [e, e2] X.env = [(false, eval e X.env), (false, eval e2 X.env)] := by rfl) (hs2 : starEach [e2] X.env = [(false, eval e2 X.env)] := by rfl) : ESrc X T W tg (.Call (.Name "range" p) [e, e2] [] pos) (iRange fr) := ⟨_, pi_range2 hg hm ha.pa hs hs2, fun σ H R ls st Fz A w sr g => by
  refine tAv_q (tAv_len ha.len w sr g) fun xs H1 hh => ?_
  obtain ⟨vs, F, B, st1, s1, p1, w1, sr1, r1, hl, g1⟩ := hh
  split at g1
  · cases hl
  · rename_i i j
    split at g1
    · rename_i hj
      refine ⟨i, j, reps2 r1, ⟨by omega, by omega, by omega, by omega⟩, g1.ok w1 _ ⟨_, _, ?_, fun _ _ => trivial, yok_range⟩⟩
      rw [List.length_map, List.length_range]; exact walk_range
    · exact g1.elim
  · exact g1.elim⟩
/-- a text, sign by sign -/
def iStrg (e : Ev) : Iv := fun ls st => bnd (e ls st) fun v st => match v with
  | .str z => some (.ok (z.cps.toList.map fun c => LV.str ⟨#[c]⟩), st)
  | _ => .none
theorem ei_str (he : PE X e (tEv T W fe)) : ESrc X T W tg e (iStrg fe) := ⟨_, pi_str he, fun σ H R ls st Fz A w sr g => by
  refine tEv_q (tEv_seq w sr g) fun x H1 hh => ?_
  obtain ⟨v, F, B, st1, s1, p1, w1, sr1, r1, g1⟩ := hh
  split at g1
  · rename_i z
    have ex : x = .str z := by cases r1; rfl
    subst ex
    refine ⟨z, rfl, g1.ok w1 _ ⟨_, _, (by rw [List.length_map, Array.length_toList]; exact walk_str : Walk (Its z) _ (fun _ => True) (fun i H v H' => H' = H ∧ ∃ c, z.cps[i]? = some c ∧ v = .str ⟨#[c]⟩)), fun _ _ => trivial, fun i H x H2 v hv hy => ?_⟩⟩
    · obtain ⟨e1, c, h1, h2⟩ := hy
      rw [List.getElem?_map, Array.getElem?_toList, h1] at hv
      cases hv
      exact .inl ⟨e1, by rw [h2]; exact .str _⟩
  · exact g1.elim⟩
end

/-! ### for -/
def forL (g : Tg) (b : Sv) : List LV → Sv
  | [], ls, st => some (.nx ls, st)
  | v :: r, ls, st => match g v ls with
    | .none => .none
    | some ls1 => match b ls1 st with
      | some (.nx ls2, st2) => forL g b r ls2 st2
      | some (.ct ls2, st2) => forL g b r ls2 st2
      | some (.bk ls2, st2) => some (.nx ls2, st2)
      | z => z
def sFor (src : Iv) (g : Tg) (b : Sv) : Sv := fun ls st => stE (src ls st) ls fun items st => forL g b items ls st
section
variable {X : Cx} {T : Tx X.K} {W : WX} {tg iter : Expr} {src : Iv} {g : Tg} {sl : List Nat} {b : Sv} {body : List Stmt} {pos : Pos}
theorem es_for (hp : PassesOwn (model X.prog X.w) X.A X.env X.xe) (hc : X.calm = true) (hi : ESrc X T W tg iter src) (hg : PG X tg (vG T g sl)) (hb : PSs X body (tSv T W b)) (hs : ∀ x, foldedSetIterable iter X.env x = pure x := by intro _; rfl) : PS X (.For tg iter body [] pos) (tSv T W (sFor src g b)) := by
  obtain ⟨wi, hpi, hrd⟩ := hi.ex
  refine PS.imp (ps_for hp hc hpi hg hb hs) fun D σ H => ?_
  rintro ⟨ls, st, Fz, A, w, sr, q⟩
  refine hrd σ H _ ls st Fz A w sr ((q.stE sr).imp (fun items H1 F B st1 _ _ _ hh => ?_) fun _ _ _ h => h)
  obtain ⟨s1, p1, w1, g1⟩ := hh
  intro J hJ
  obtain ⟨G, Y, hW, hG, hY⟩ := hJ
  refine for_it hW (fun i σ' H' => ∃ ls' st' F' B', Same F F' ∧ Ap B B' ∧ Wd T H' F' B' st' ∧ SR T F' B' ls' σ' ∧ GoS T W D F' B' (forL g b (items.drop i) ls' st'))
    ⟨ls, st1, F, B, Same.refl _, Ap.refl _, w1, sr.mono s1 p1, g1⟩ (fun i σ' H' _ ⟨_, _, F', B', s2, _, w2, _⟩ => hG H' (s2.trans w2.fz)) ?_ ?_
  · rintro i x σ' H' H2 hi ⟨ls', st', F', B', s2, p2, w2, sr2, g2⟩ hy
    have hv : items[i]? = some items[i] := List.getElem?_eq_getElem hi
    have hd : items.drop i = items[i] :: items.drop (i + 1) := (List.drop_eq_getElem_cons hi)
    rw [hd] at g2
    simp only [forL] at g2
    split at g2
    · exact g2.elim
    · rename_i ls1 hg1
      have fin : ∀ {F2 : Hp} {B2 : Ad} {H3 : Hp}, Same F' F2 → Ap B' B2 → Wd T H3 F2 B2 st' → Rep T F2 B2 items[i] x → SR T F2 B2 ls' σ' → vG T g sl x σ' H3 (fun σ2 H4 => tSv T W b { D with nx := fun σ' H' => ∃ ls' st' F' B', Same F F' ∧ Ap B B' ∧ Wd T H' F' B' st' ∧ SR T F' B' ls' σ' ∧ GoS T W D F' B' (forL g b (items.drop (i + 1)) ls' st'), ct := fun σ' H' => ∃ ls' st' F' B', Same F F' ∧ Ap B B' ∧ Wd T H' F' B' st' ∧ SR T F' B' ls' σ' ∧ GoS T W D F' B' (forL g b (items.drop (i + 1)) ls' st'), bk := D.nx } σ2 H4) := fun {F2 B2 H3} s3 p3 w3 r3 sr3 => by
        refine ⟨_, ls', ls1, F2, B2, st', w3, r3, sr3, hg1, fun σ2 sr4 _ _ => ⟨ls1, st', F2, B2, w3, sr4, ?_⟩⟩
        have g3 := GoS.mono s3 p3 g2
        cases e : b ls1 st' with
        | none => rw [e] at g3; exact g3.elim
        | some y =>
          rw [e] at g3
          match y, g3 with
          | (.nx ls2, st2), g3 => exact fun H F B σ h1 h2 w sr => ⟨ls2, st2, F, B, (s2.trans s3).trans h1, (p2.trans p3).trans h2, w, sr, g3.mono h1 h2⟩
          | (.ct ls2, st2), g3 => exact fun H F B σ h1 h2 w sr => ⟨ls2, st2, F, B, (s2.trans s3).trans h1, (p2.trans p3).trans h2, w, sr, g3.mono h1 h2⟩
          | (.bk ls2, st2), g3 => exact g3
          | (.rt v, st2), g3 => exact g3
          | (.ex c fs ls2, st2), g3 => exact g3
      rcases hY i H' x H2 _ hv hy with ⟨e1, r1⟩ | ⟨p, vs, lsx, n, e1, e2, e3, rr⟩
      · subst e1
        exact fin (Same.refl _) (Ap.refl _) w2 (r1.mono s2 p2) sr2
      · subst e1
        subst e2
        have sm := same_upd (o := .tup vs) (w2.fn n)
        refine fin sm (Ap.refl _) (w2.new n fun _ => nofun) ?_ (sr2.mono sm (Ap.refl _))
        rw [e3]
        exact .tup (SqT.of upd_same) ((rr.mono s2 p2).mono sm (Ap.refl _))
  · rintro σ' H' ⟨ls', st', F', B', s2, p2, w2, sr2, g2⟩
    rw [List.drop_length] at g2
    exact g2.nx w2 sr2
end

/-! ### comprehensions -/
def wipeL (ls : Ls) : List Nat → Ls
  | [] => ls
  | v :: vs => (wipeL ls vs).set v .none
def compL (sl : List Nat) (g : Tg) (t : Tv) (e : Ev) : List LV → Ls → Sto → Option (List LV × Sto)
  | [], _, st => some ([], st)
  | v :: r, ls, st => match g v (wipeL ls sl) with
    | .none => .none
    | some ls1 => match t ls1 st with
      | some (.ok true, st1) => match e ls1 st1 with
        | some (.ok y, st2) => match compL sl g t e r ls st2 with
          | some (ys, st3) => some (y :: ys, st3)
          | .none => .none
        | _ => .none
      | some (.ok false, st1) => compL sl g t e r ls st1
      | _ => .none
/-- [e for g in src if t]; sl: the slots of its own names -/
def eComp (src : Iv) (sl : List Nat) (g : Tg) (t : Tv) (e : Ev) : Ev := fun ls st => bnd (src ls st) fun items st => if items.length ≤ 1000000 then match compL sl g t e items ls st with
    | some (ys, st) => some (.ok (.lst ys), st)
    | .none => .none
  else .none
def tTrue : Tv := fun _ st => some (.ok true, st)
theorem compL_len {sl : List Nat} {g : Tg} {t : Tv} {e : Ev} : ∀ {xs : List LV} {ls : Ls} {st : Sto} {ys : List LV} {st' : Sto}, compL sl g t e xs ls st = some (ys, st') → ys.length ≤ xs.length
  | [], _, _, _, _, h => by cases h; simp
  | v :: r, ls, st, ys, st', h => by
    simp only [compL] at h
    split at h
    · cases h
    · split at h
      · split at h
        · split at h
          · rename_i hh
            cases h
            have := compL_len hh
            simp; omega
          · cases h
        · cases h
      · have := compL_len h
        simp; omega
      · cases h
section
variable {K : PySem.W.Frag} {T : Tx K} {H Fz : Hp} {A : Ad} {st : Sto}
theorem SR.wipe {ls : Ls} {σ : L2.St} (r : SR T Fz A ls σ) : ∀ vs : List Nat, SR T Fz A (wipeL ls vs) (L2.wipe σ vs)
  | [] => r
  | v :: vs => (r.wipe vs).unset v
theorem wipe_get {σ : L2.St} {j : Nat} : ∀ {vs : List Nat}, j ∉ vs → (L2.wipe σ vs)[j]? = σ[j]?
  | [], _ => rfl
  | v :: vs, h => by
    unfold L2.wipe
    rw [List.getElem?_set_ne fun z => h (by rw [z]; exact List.mem_cons_self)]
    exact wipe_get fun z => h (List.mem_cons_of_mem _ z)
theorem wipe_in {σ : L2.St} {j : Nat} (hj : j < σ.length) : ∀ {vs : List Nat}, j ∈ vs → (L2.wipe σ vs)[j]? = some none
  | [], h => by cases h
  | v :: vs, h => by
    unfold L2.wipe
    by_cases e : j = v
    · subst e; rw [List.getElem?_set_self (by rw [wipe_length]; exact hj)]
    · rw [List.getElem?_set_ne (Ne.symm e)]
      exact wipe_in hj ((List.mem_cons.mp h).resolve_left e)
theorem wipe_same {σ σ2 : L2.St} {sl vs : List Nat} (hl : σ2.length = (L2.wipe σ vs).length) (h : ∀ j, j ∉ sl → σ2[j]? = (L2.wipe σ vs)[j]?) (hs : ∀ j ∈ sl, j ∈ vs) : L2.wipe σ2 vs = L2.wipe σ vs := by
  have l2 : σ2.length = σ.length := by rw [hl, wipe_length]
  apply List.ext_getElem?
  intro j
  by_cases hv : j ∈ vs
  · by_cases hj : j < σ.length
    · rw [wipe_in (by rw [l2]; exact hj) hv, wipe_in hj hv]
    · rw [List.getElem?_eq_none (by rw [wipe_length, l2]; omega), List.getElem?_eq_none (by rw [wipe_length]; omega)]
  · rw [wipe_get hv]
    exact h j fun z => hv (hs j z)
theorem Al.to (A : Ad) (q : Hp) : Al A ⟨A.l, q⟩ := fun _ _ h => h
theorem MRep.mono2 {H' Fz' : Hp} {A' : Ad} {o : MO} {a : Addr} (s : Same Fz Fz') (p : Al A A') (e : H a = H' a) (m : MRep T H Fz A o a) : MRep T H' Fz' A' o a := by
  cases o with
  | gone => trivial
  | lst xs => obtain ⟨vs, h, r⟩ := m; exact ⟨vs, by rw [← e]; exact h, r.mono' s p⟩
  | dct xs => obtain ⟨vs, h, r⟩ := m; exact ⟨vs, by rw [← e]; exact h, r.mono' s p⟩
  | ins c fs => obtain ⟨⟨dx, vs, h, r⟩, q⟩ := m; exact ⟨⟨dx, vs, by rw [← e]; exact h, r.mono' s p⟩, q⟩
theorem prt_upd {pr : Hp} {p : Addr} {o : HO} (h : ∀ b o, pr b = some o → Chg o) (c : Chg o) : ∀ b u, upd pr p o b = some u → Chg u := fun b u e => by
  by_cases hb : b = p
  · subst hb; rw [upd_same] at e; cases e; exact c
  · rw [upd_ne hb] at e; exact h b u e
theorem prt_un {pr : Hp} {p : Addr} {o : HO} (h : ∀ b u, upd pr p o b = some u → Chg u) (n : pr p = .none) : ∀ b u, pr b = some u → Chg u := fun b u e => h b u (by rw [upd_ne (ne_of_none e n)]; exact e)
/-- an object beside is protected from now on -/
theorem Wd.guard (w : Wd T H Fz A st) {p : Addr} {o : HO} (n : H p = .none) (c : Chg o) : Wd T (upd H p o) Fz ⟨A.l, upd A.pr p o⟩ st := by
  have w' := w.aside (o := o) n
  refine ⟨w'.fz, w'.len, fun r a m h1 h2 => MRep.mono2 (Same.refl _) (Al.to A _) rfl (w'.mo r a m h1 h2), w'.sep, w'.inj, w'.tr, w'.tab, w'.ntb, fun b u e => ?_, fun ls σ e => (w'.lam ls σ e).mono2 (Same.refl _) (Al.to A _), prt_upd w.prt c⟩
  by_cases hb : b = p
  · subst hb
    have e : upd A.pr b o b = some u := e
    rw [upd_same] at e; cases e
    refine ⟨upd_same, w.fn n, fun z => ?_⟩
    obtain ⟨r, hr, e⟩ := List.mem_iff_getElem.mp z
    exact w.tr r b (by rw [List.getElem?_eq_getElem hr, e]) n
  · have e : upd A.pr p o b = some u := e
    rw [upd_ne hb] at e
    exact w'.prs b u e
/-- a protected list changes -/
theorem Wd.prUpd (w : Wd T H Fz A st) {p : Addr} {u o : HO} (n : A.pr p = some u) (c : Chg u) (c2 : Chg o) : Wd T (upd H p o) Fz ⟨A.l, upd A.pr p o⟩ st := by
  obtain ⟨h1, h2, h3⟩ := w.prs p u n
  have ne : ∀ {r : Nat} {a : Addr}, A.l[r]? = some a → a ≠ p := fun h z => h3 (by rw [← z]; exact List.mem_of_getElem? h)
  refine ⟨fun b v e => ?_, w.len, fun r a m i1 i2 => MRep.mono2 (Same.refl _) (Al.to A _) (upd_ne (ne i1)).symm (w.mo r a m i1 i2), w.sep, w.inj, fun r a h => ?_, tabs_upd w.tab h1 c, w.ntb, fun b v e => ?_, fun ls σ e => (w.lam ls σ e).mono2 (Same.refl _) (Al.to A _), prt_upd w.prt c2⟩
  · rw [upd_ne (ne_of_none e h2)]; exact w.fz _ _ e
  · rw [upd_ne (ne h)]; exact w.tr r a h
  · have e : upd A.pr p o b = some v := e
    by_cases hb : b = p
    · subst hb; rw [upd_same] at e; cases e; exact ⟨upd_same, h2, h3⟩
    · rw [upd_ne hb] at e; rw [upd_ne hb]; exact w.prs b v e
/-- a protected list stays as it is from now on -/
theorem Wd.prEnd {l : List Addr} {pr : Hp} {p : Addr} {o : HO} (w : Wd T H Fz ⟨l, upd pr p o⟩ st) (n : pr p = .none) (c : Chg o) : Wd T H (upd Fz p o) ⟨l, pr⟩ st ∧ Same Fz (upd Fz p o) := by
  obtain ⟨h1, h2, h3⟩ := w.prs p o upd_same
  have ne : ∀ {r : Nat} {a : Addr}, l[r]? = some a → a ≠ p := fun h z => h3 (by rw [← z]; exact List.mem_of_getElem? h)
  refine ⟨⟨fun b v e => ?_, w.len, fun r a m i1 i2 => MRep.mono2 (same_upd h2) (Al.to ⟨l, upd pr p o⟩ pr) rfl (w.mo r a m i1 i2), fun r a m i1 i2 i3 => ?_, w.inj, w.tr, w.tab, fun b ps e => ?_, fun b v e => ?_, fun ls σ e => (w.lam ls σ e).mono2 (same_upd h2) (Al.to ⟨l, upd pr p o⟩ pr), prt_un w.prt n⟩, same_upd h2⟩
  · by_cases hb : b = p
    · subst hb; rw [upd_same] at e; cases e; exact h1
    · rw [upd_ne hb] at e; exact w.fz _ _ e
  · rw [upd_ne (ne i1)]; exact w.sep r a m i1 i2 i3
  · by_cases hb : b = p
    · subst hb; rw [upd_same] at e; cases e; exact c
    · rw [upd_ne hb] at e; exact w.ntb b ps e
  · have hb := ne_of_none e n
    obtain ⟨k1, k2, k3⟩ := w.prs b v (by show upd pr p o b = some v; rw [upd_ne hb]; exact e)
    exact ⟨k1, by rw [upd_ne hb]; exact k2, k3⟩
/-- a protected list is one of the changeable objects from now on -/
theorem Wd.prOb {l : List Addr} {pr : Hp} {p : Addr} {o : HO} {m : MO} (w : Wd T H Fz ⟨l, upd pr p o⟩ st) (n : pr p = .none) (hm : MRep T H Fz ⟨l ++ [p], pr⟩ m p) : Wd T H Fz ⟨l ++ [p], pr⟩ (st ++ [m]) := by
  obtain ⟨h1, h2, h3⟩ := w.prs p o upd_same
  have ne : ∀ {r : Nat} {a : Addr}, l[r]? = some a → a ≠ p := fun h z => h3 (by rw [← z]; exact List.mem_of_getElem? h)
  have al : Al ⟨l, upd pr p o⟩ ⟨l ++ [p], pr⟩ := fun r x h => by
    show (l ++ [p])[r]? = some x
    rw [List.getElem?_append_left (List.getElem?_eq_some_iff.mp h).1]; exact h
  have wl : l.length = st.length := w.len
  refine ⟨w.fz, by simp [wl], fun r a o' i1 i2 => ?_, fun r a o' i1 i2 i3 => ?_, fun r q a i1 i2 => ?_, fun r a h => ?_, w.tab, w.ntb, fun b v e => ?_, fun ls σ e => (w.lam ls σ e).mono2 (Same.refl _) al, prt_un w.prt n⟩
  · rcases get_snoc i1 with i1 | ⟨e1, e2⟩
    · have hr : r < st.length := by rw [← wl]; exact (List.getElem?_eq_some_iff.mp i1).1
      rw [List.getElem?_append_left hr] at i2
      exact (w.mo r a o' i1 i2).mono2 (Same.refl _) al rfl
    · subst e1 e2
      rw [wl, List.getElem?_append_right (Nat.le_refl _)] at i2
      simp at i2
      subst i2
      exact hm
  · rcases get_snoc i1 with i1 | ⟨e1, e2⟩
    · have hr : r < st.length := by rw [← wl]; exact (List.getElem?_eq_some_iff.mp i1).1
      rw [List.getElem?_append_left hr] at i2
      exact w.sep r a o' i1 i2 i3
    · subst e2; exact h2
  · rcases get_snoc i1 with i1 | ⟨e1, e2⟩ <;> rcases get_snoc i2 with i2 | ⟨e3, e4⟩
    · exact w.inj r q a i1 i2
    · exact absurd e4 (ne i1)
    · exact absurd e2 (ne i2)
    · omega
  · rcases get_snoc h with h | ⟨e1, e2⟩
    · exact w.tr r a h
    · subst e2; rw [h1]; exact fun z => nomatch z
  · have hb := ne_of_none e n
    obtain ⟨k1, k2, k3⟩ := w.prs b v (by show upd pr p o b = some v; rw [upd_ne hb]; exact e)
    exact ⟨k1, k2, fun z => by
      rcases List.mem_append.mp z with z | z
      · exact k3 z
      · exact hb (List.mem_singleton.mp z)⟩
end
abbrev W0 : WX := fun _ _ _ _ => False
/-- the list, one that changes -/
def eCompM (src : Iv) (sl : List Nat) (g : Tg) (t : Tv) (e : Ev) : Ev := fun ls st => bnd (src ls st) fun items st => if items.length ≤ 1000000 then match compL sl g t e items ls st with
    | some (ys, st) => some (.ok (.ob st.length), st ++ [.lst ys])
    | .none => .none
  else .none
theorem pts_tt {X : Cx} {T : Tx X.K} : PTs X [] (tTv T W0 tTrue) := ⟨fun pins s σ H Q I h => by
  obtain ⟨ls, st, Fz, A, w, sr, g⟩ := h
  exact pts_nil.run pins s σ H Q I (g H Fz A (Same.refl _) (Ap.refl _) w)⟩
section
variable {X : Cx} {T : Tx X.K} {W : WX} {elt tg iter : Expr} {ifs : List Expr} {scope : Scope} {own : List (Str × Nat)} {pos : Pos} {src : Iv} {g : Tg} {sl : List Nat} {t : Tv} {fe : Ev} {wi : TI}
theorem lc_rd {z : Bool} {σ : L2.St} {H : Hp} {Q : VK} (hrd : ∀ σ H (R : It → Hp → Prop) ls st Fz A, Wd T H Fz A st → SR T Fz A ls σ → Go T Fz A (fun items H' F B _ => ∀ J, IterOk T F B items J → R J H') (exW W σ) (src ls st) → wi σ H R) (hsl : ∀ j ∈ sl, j ∈ own.map (·.2))
    (h : tEv T W (match z with | true => eCompM src (own.map (·.2)) g t fe | false => eComp src (own.map (·.2)) g t fe) σ H Q) : tLc wi (vG T g sl) (tTv T W0 t) (tEv T W0 fe) (own.map (·.2)) σ H Q := by
  obtain ⟨ls, st, Fz, A, w, sr, q⟩ := h
  have q : Go T Fz A (okV T Q) (exW W σ) (bnd (src ls st) fun items st => if items.length ≤ 1000000 then match compL (own.map (·.2)) g t fe items ls st with
    | some (ys, st) => (match z with | true => some (.ok (.ob st.length), st ++ [.lst ys]) | false => some (.ok (.lst ys), st))
    | .none => .none
  else .none) := by
    cases z <;> exact q
  refine hrd σ H _ ls st Fz A w sr (q.bnd.imp (fun items H1 F B st1 _ _ _ hh => ?_) fun _ _ _ h => h)
  obtain ⟨s1, p1, w1, g1⟩ := hh
  intro J hJ
  obtain ⟨G, Y, hW, hG, hY⟩ := hJ
  intro D hD
  split at g1
  · rename_i hlen
    cases e : compL (own.map (·.2)) g t fe items ls st1 with
    | none => rw [e] at g1; exact g1.elim
    | some y =>
      obtain ⟨ys, stE⟩ := y
      rw [e] at g1
      have prD : B.pr D = .none := by
        cases hp : B.pr D with
        | none => rfl
        | some o => have := (w1.prs D o hp).1; rw [hD] at this; cases this
      have sr1 := sr.mono s1 p1
      refine lc_it hW (fun i H' => ∃ acc st' F' l' zs pre, Same F F' ∧ (∃ C, l' = B.l ++ C) ∧ Wd T H' F' ⟨l', upd B.pr D (.lst acc)⟩ st' ∧ Reps T F' ⟨l', upd B.pr D (.lst acc)⟩ pre acc ∧ compL (own.map (·.2)) g t fe (items.drop i) ls st' = some (zs, stE) ∧ ys = pre ++ zs ∧ pre.length ≤ i)
        ⟨[], st1, F, B.l, ys, [], Same.refl _, ⟨[], by simp⟩, w1.guard hD trivial, .nil, e, rfl, Nat.le_refl _⟩ (fun i H' _ ⟨_, _, F', _, _, _, s2, _, w2, _⟩ => hG H' (s2.trans w2.fz)) ?_ ?_
      · rintro i x H' H2 hi ⟨acc, st', F', l', zs, pre, s2, ⟨C, hC⟩, w2, r2, e2, hys, hpl⟩ hy
        have hv : items[i]? = some items[i] := List.getElem?_eq_getElem hi
        have hd : items.drop i = items[i] :: items.drop (i + 1) := (List.drop_eq_getElem_cons hi)
        rw [hd] at e2
        have al : ∀ a, Al B ⟨l', a⟩ := fun a r x h => by
          show l'[r]? = some x
          rw [hC, List.getElem?_append_left (List.getElem?_eq_some_iff.mp h).1]; exact h
        simp only [compL] at e2
        split at e2
        · cases e2
        rename_i ls1 hg1
        have fin : ∀ {F2 : Hp} {H3 : Hp}, Same F' F2 → Wd T H3 F2 ⟨l', upd B.pr D (.lst acc)⟩ st' → Rep T F2 ⟨l', upd B.pr D (.lst acc)⟩ items[i] x → vG T g sl x (L2.wipe σ (own.map (·.2))) H3 (fun σ2 H4 => L2.wipe σ2 (own.map (·.2)) = L2.wipe σ (own.map (·.2)) ∧ tTv T W0 t σ2 H4 fun b H5 =>
            if b = true then tEv T W0 fe σ2 H5 fun y H6 => ∃ acc, H6 D = some (.lst acc) ∧ acc.length < sizeLine ∧ (∃ acc' st' F' l' zs pre, Same F F' ∧ (∃ C, l' = B.l ++ C) ∧ Wd T (upd H6 D (.lst (acc ++ [y]))) F' ⟨l', upd B.pr D (.lst acc')⟩ st' ∧ Reps T F' ⟨l', upd B.pr D (.lst acc')⟩ pre acc' ∧ compL (own.map (·.2)) g t fe (items.drop (i + 1)) ls st' = some (zs, stE) ∧ ys = pre ++ zs ∧ pre.length ≤ i + 1)
            else ∃ acc' st' F' l' zs pre, Same F F' ∧ (∃ C, l' = B.l ++ C) ∧ Wd T H5 F' ⟨l', upd B.pr D (.lst acc')⟩ st' ∧ Reps T F' ⟨l', upd B.pr D (.lst acc')⟩ pre acc' ∧ compL (own.map (·.2)) g t fe (items.drop (i + 1)) ls st' = some (zs, stE) ∧ ys = pre ++ zs ∧ pre.length ≤ i + 1) := fun {F2 H3} s3 w3 r3 => by
          refine ⟨_, wipeL ls (own.map (·.2)), ls1, F2, _, st', w3, r3, (sr1.mono2 (s2.trans s3) (al _)).wipe _, hg1, fun σ2 sr4 hl hk => ⟨wipe_same hl hk hsl, ls1, st', F2, _, w3, sr4, ?_⟩⟩
          cases et : t ls1 st' with
          | none => rw [et] at e2; cases e2
          | some y =>
            obtain ⟨y1, st2⟩ := y
            rw [et] at e2
            match y1, e2 with
            | .ok false, e2 =>
              intro H5 F5 A5 s5 p5 w5
              obtain ⟨l5, pr5⟩ := A5
              obtain ⟨hpr, C5, hC5⟩ := p5
              have hpr : pr5 = upd B.pr D (.lst acc) := hpr
              have hC5 : l5 = l' ++ C5 := hC5
              subst hpr hC5
              refine iteF ⟨acc, st2, F5, _, zs, pre, (s2.trans s3).trans s5, ⟨C ++ C5, by rw [hC]; simp⟩, w5, r2.mono' (s3.trans s5) (fun r x h => ?_), e2, hys, by omega⟩
              show (l' ++ C5)[r]? = some x
              rw [List.getElem?_append_left (List.getElem?_eq_some_iff.mp h).1]; exact h
            | .ok true, e2 =>
              intro H5 F5 A5 s5 p5 w5
              refine iteT ⟨ls1, st2, F5, A5, w5, sr4.mono s5 p5, ?_⟩
              simp only at e2
              cases ee : fe ls1 st2 with
              | none => rw [ee] at e2; cases e2
              | some y =>
                obtain ⟨y1, st3⟩ := y
                rw [ee] at e2
                match y1, e2 with
                | .ok v, e2 =>
                  simp only at e2
                  split at e2
                  · rename_i zs' st4 er
                    simp only [Option.some.injEq, Prod.mk.injEq] at e2
                    obtain ⟨e3, e4⟩ := e2
                    subst e3 e4
                    intro H6 F6 A6 s6 p6 w6 y ry
                    have p7 := p5.trans p6
                    obtain ⟨l6, pr6⟩ := A6
                    obtain ⟨hpr, C6, hC6⟩ := p7
                    have hpr : pr6 = upd B.pr D (.lst acc) := hpr
                    have hC6 : l6 = l' ++ C6 := hC6
                    subst hpr hC6
                    have hD6 := (w6.prs D _ upd_same).1
                    refine ⟨acc, hD6, ?_, acc ++ [y], st3, F6, l' ++ C6, zs', pre ++ [v], ((s2.trans s3).trans s5).trans s6, ⟨C ++ C6, by rw [hC, List.append_assoc]⟩, ?_, ?_, er, by rw [hys, List.append_assoc]; rfl, by simp; omega⟩
                    · rw [← r2.length, sizeLine_eq]; omega
                    · have := w6.prUpd (o := .lst (acc ++ [y])) (upd_same (o := HO.lst acc)) trivial trivial
                      rw [show upd (upd B.pr D (.lst acc)) D (.lst (acc ++ [y])) = upd B.pr D (.lst (acc ++ [y])) from funext fun b => by unfold upd; split <;> rfl] at this
                      exact this
                    · refine Reps.append (r2.mono' ((s3.trans s5).trans s6) (fun r x h => ?_)) (.cons (ry.mono' (Same.refl _) (Al.to ⟨l' ++ C6, upd B.pr D (.lst acc)⟩ _)) .nil)
                      show (l' ++ C6)[r]? = some x
                      rw [List.getElem?_append_left (List.getElem?_eq_some_iff.mp h).1]; exact h
                  · cases e2
        rcases hY i H' x H2 _ hv hy with ⟨e1, r1⟩ | ⟨p, vs, lsx, n, e1, e2', e3, rr⟩
        · subst e1
          exact fin (Same.refl _) w2 (r1.mono' s2 (al _))
        · subst e1
          subst e2'
          have sm := same_upd (o := .tup vs) (w2.fn n)
          refine fin sm (w2.new n fun _ => nofun) ?_
          rw [e3]
          exact .tup (SqT.of upd_same) (rr.mono' (s2.trans sm) (al _))
      · rintro H' ⟨acc, st', F', l', zs, pre, s2, ⟨C, hC⟩, w2, r2, e2, hys, hpl⟩
        rw [List.drop_length] at e2
        simp only [compL, Option.some.injEq, Prod.mk.injEq] at e2
        obtain ⟨e3, e4⟩ := e2
        subst e3 e4
        rw [List.append_nil] at hys
        subst hys
        cases z with
        | false =>
          obtain ⟨w3, s3⟩ := w2.prEnd prD trivial
          exact g1 H' _ ⟨l', B.pr⟩ (s2.trans s3) ⟨rfl, C, hC⟩ w3 _ (.lst (SqL.of upd_same) (r2.mono' s3 (Al.to ⟨l', upd B.pr D (.lst acc)⟩ _)))
        | true =>
          have hD6 := (w2.prs D _ upd_same).1
          have al2 : Al ⟨l', upd B.pr D (.lst acc)⟩ ⟨l' ++ [D], B.pr⟩ := fun r x h => by
            show (l' ++ [D])[r]? = some x
            rw [List.getElem?_append_left (List.getElem?_eq_some_iff.mp h).1]; exact h
          have w3 : Wd T H' F' ⟨l' ++ [D], B.pr⟩ (st' ++ [.lst ys]) := w2.prOb (m := .lst ys) prD ⟨acc, hD6, r2.mono' (Same.refl _) al2⟩
          refine g1 H' _ ⟨l' ++ [D], B.pr⟩ s2 ⟨rfl, C ++ [D], by rw [hC, List.append_assoc]⟩ w3 _ (.ob ?_)
          have wl : l'.length = st'.length := w2.len
          show (l' ++ [D])[st'.length]? = some D
          rw [← wl]; simp
  · exact g1.elim
variable (hc : X.calm = true) (hN : X.N.Nodup) (hi : ESrc X T W tg iter src) (ok : BlkOk X.N X.env.scope scope own) (hsl : ∀ j ∈ sl, j ∈ own.map (·.2))
  (hg : ∀ (s : Shared) (H : Hp) (C : Addr) (cl : List (Str × Addr)) (fp : List Addr), PG (X.blk s H scope (compEnvC scope cl C X.env) fp) tg (vG T g sl)) (ht : ∀ (s : Shared) (H : Hp) (C : Addr) (cl : List (Str × Addr)) (fp : List Addr), PTs (X.blk s H scope (compEnvC scope cl C X.env) fp) ifs (tTv T W0 t))
  (he : ∀ (s : Shared) (H : Hp) (C : Addr) (cl : List (Str × Addr)) (fp : List Addr), PE (X.blk s H scope (compEnvC scope cl C X.env) fp) elt (tEv T W0 fe))
include hc hN hi ok hsl hg ht he
theorem ev_comp (hs : ∀ x, foldedSetIterable iter X.env x = pure x := by intro _; rfl) : PE X (.ListComp elt [⟨tg, iter, ifs, 0⟩] scope pos) (tEv T W (eComp src (own.map (·.2)) g t fe)) := by
  obtain ⟨wi, hpi, hrd⟩ := hi.ex
  exact PE.imp (pe_lc hc hN hpi ok hg ht he hs) fun σ H Q h => lc_rd (z := false) hrd hsl h
theorem ev_compM (hs : ∀ x, foldedSetIterable iter X.env x = pure x := by intro _; rfl) : PE X (.ListComp elt [⟨tg, iter, ifs, 0⟩] scope pos) (tEv T W (eCompM src (own.map (·.2)) g t fe)) := by
  obtain ⟨wi, hpi, hrd⟩ := hi.ex
  exact PE.imp (pe_lc hc hN hpi ok hg ht he hs) fun σ H Q h => lc_rd (z := true) hrd hsl h
/-- x = [..] on one line -/
theorem es_setComp {i : Nat} {y : Str} {py spos : Pos} (hy : X.N[i]? = some y) (hyl : X.env.scope.names.lookup y = some .local)
    (hsw : swapsWith (.ListComp elt [⟨tg, iter, ifs, 0⟩] scope pos) (some (.Name y py)) spos.line X.env = pure true) (hs : ∀ x, foldedSetIterable iter X.env x = pure x := by intro _; rfl) :
    PS X (.Assign [.Name y py] (.ListComp elt [⟨tg, iter, ifs, 0⟩] scope pos) spos) (tSv T W (sSet i (eComp src (own.map (·.2)) g t fe))) := by
  obtain ⟨wi, hpi, hrd⟩ := hi.ex
  refine PS.imp (ps_setLc hc hN hy hyl hsw hpi ok hg ht he hs) fun D σ H h => ?_
  obtain ⟨ls, st, Fz, A, w, sr, q⟩ := h
  refine lc_rd (z := false) hrd hsl (tEv_q (tEv_st w sr q) fun b H' hh => ?_)
  obtain ⟨v, F, B, st1, s1, p1, w1, sr1, r1, g1⟩ := hh
  exact g1 H' F B _ (Same.refl _) (Ap.refl _) w1 (sr1.set r1 i)
theorem es_setCompM {i : Nat} {y : Str} {py spos : Pos} (hy : X.N[i]? = some y) (hyl : X.env.scope.names.lookup y = some .local)
    (hsw : swapsWith (.ListComp elt [⟨tg, iter, ifs, 0⟩] scope pos) (some (.Name y py)) spos.line X.env = pure true) (hs : ∀ x, foldedSetIterable iter X.env x = pure x := by intro _; rfl) :
    PS X (.Assign [.Name y py] (.ListComp elt [⟨tg, iter, ifs, 0⟩] scope pos) spos) (tSv T W (sSet i (eCompM src (own.map (·.2)) g t fe))) := by
  obtain ⟨wi, hpi, hrd⟩ := hi.ex
  refine PS.imp (ps_setLc hc hN hy hyl hsw hpi ok hg ht he hs) fun D σ H h => ?_
  obtain ⟨ls, st, Fz, A, w, sr, q⟩ := h
  refine lc_rd (z := true) hrd hsl (tEv_q (tEv_st w sr q) fun b H' hh => ?_)
  obtain ⟨v, F, B, st1, s1, p1, w1, sr1, r1, g1⟩ := hh
  exact g1 H' F B _ (Same.refl _) (Ap.refl _) w1 (sr1.set r1 i)
end
end EL

set_option Elab.async false
set_option linter.all false
set_option maxRecDepth 100000
set_option maxHeartbeats 1000000
/-! EL10: lambdas: made, kept as values, called by a def that got one. -/
namespace EL
open PySem PySem.Spec PyProof.Rows L2

/-! ### which lambdas stand in a value -/
mutual
def LV.all (p : Nat → Bool) : LV → Bool
  | .tup xs => LV.allL p xs
  | .lst xs => LV.allL p xs
  | .dct kvs => LV.allK p kvs
  | .ins _ fs => LV.allF p fs
  | .exc _ fs => LV.allF p fs
  | .lam i => p i
  | _ => true
def LV.allL (p : Nat → Bool) : List LV → Bool
  | [] => true
  | x :: r => LV.all p x && LV.allL p r
def LV.allF (p : Nat → Bool) : List (Nat × LV) → Bool
  | [] => true
  | (_, x) :: r => LV.all p x && LV.allF p r
def LV.allK (p : Nat → Bool) : List (Key × LV) → Bool
  | [] => true
  | (_, x) :: r => LV.all p x && LV.allK p r
end
mutual
theorem LV.all_tt {p : Nat → Bool} (h : ∀ i, p i = true) : ∀ v : LV, LV.all p v = true
  | .non => rfl
  | .bl _ => rfl
  | .int _ => rfl
  | .str _ => rfl
  | .ty _ => rfl
  | .cl _ => rfl
  | .ob _ => rfl
  | .tup xs => LV.allL_tt h xs
  | .lst xs => LV.allL_tt h xs
  | .dct xs => LV.allK_tt h xs
  | .ins _ xs => LV.allF_tt h xs
  | .exc _ xs => LV.allF_tt h xs
  | .lam i => h i
theorem LV.allL_tt {p : Nat → Bool} (h : ∀ i, p i = true) : ∀ v : List LV, LV.allL p v = true
  | [] => rfl
  | x :: r => by unfold LV.allL; rw [LV.all_tt h x, LV.allL_tt h r]; rfl
theorem LV.allF_tt {p : Nat → Bool} (h : ∀ i, p i = true) : ∀ v : List (Nat × LV), LV.allF p v = true
  | [] => rfl
  | (_, x) :: r => by unfold LV.allF; rw [LV.all_tt h x, LV.allF_tt h r]; rfl
theorem LV.allK_tt {p : Nat → Bool} (h : ∀ i, p i = true) : ∀ v : List (Key × LV), LV.allK p v = true
  | [] => rfl
  | (_, x) :: r => by unfold LV.allK; rw [LV.all_tt h x, LV.allK_tt h r]; rfl
end
section
variable {K : PySem.W.Frag} {T : Tx K} {l : Lm} {p : Nat → Bool} {H Fz : Hp} {A : Ad} {st : Sto}
abbrev Csts (T : Tx K) (l : Lm) (p : Nat → Bool) (Fz : Hp) : Prop := ∀ i a, p i = true → (∀ φ, T.lmA i = some φ → φ a Fz) → ∀ φ, l.A i = some φ → φ a Fz
mutual
theorem Rep.cast (hc : Csts T l p Fz) : ∀ {v : LV} {x : V}, LV.all p v = true → Rep T Fz A v x → Rep (T.setL l) Fz A v x
  | _, _, _, .non => .non
  | _, _, _, .bl b => .bl b
  | _, _, _, .int i => .int i
  | _, _, _, .str x => .str x
  | _, _, _, .ty x => .ty x
  | _, _, _, .cl c => .cl (T := T.setL l) c
  | _, _, q, .tup h r => .tup h (Reps.cast hc q r)
  | _, _, q, .lst h r => .lst h (Reps.cast hc q r)
  | _, _, q, .dct h r => .dct h (RepK.cast hc q r)
  | _, _, q, .ins h r w => .ins (T := T.setL l) h (RepF.cast hc q r) w
  | _, _, q, .exc h e hd x r z => .exc (T := T.setL l) h e hd x (RepF.cast hc q r) z
  | _, _, _, .exc0 h e => .exc0 (T := T.setL l) h e
  | _, _, _, .ob h => .ob h
  | _, _, q, .lam h => .lam (hc _ _ q h)
theorem Reps.cast (hc : Csts T l p Fz) : ∀ {v : List LV} {x : List V}, LV.allL p v = true → Reps T Fz A v x → Reps (T.setL l) Fz A v x
  | _, _, _, .nil => .nil
  | _, _, q, .cons h r => by
    unfold LV.allL at q
    rw [Bool.and_eq_true] at q
    exact .cons (Rep.cast hc q.1 h) (Reps.cast hc q.2 r)
theorem RepF.cast (hc : Csts T l p Fz) : ∀ {v : List (Nat × LV)} {x : List (Str × V)}, LV.allF p v = true → RepF T Fz A v x → RepF (T.setL l) Fz A v x
  | _, _, _, .nil => .nil
  | _, _, q, .cons h r => by
    unfold LV.allF at q
    rw [Bool.and_eq_true] at q
    exact .cons (T := T.setL l) (Rep.cast hc q.1 h) (RepF.cast hc q.2 r)
theorem RepK.cast (hc : Csts T l p Fz) : ∀ {v : List (Key × LV)} {x : List (Key × V)}, LV.allK p v = true → RepK T Fz A v x → RepK (T.setL l) Fz A v x
  | _, _, _, .nil => .nil
  | _, _, q, .cons h r => by
    unfold LV.allK at q
    rw [Bool.and_eq_true] at q
    exact .cons (Rep.cast hc q.1 h) (RepK.cast hc q.2 r)
end
def MO.all (p : Nat → Bool) : MO → Bool
  | .gone => true
  | .lst xs => LV.allL p xs
  | .dct xs => LV.allK p xs
  | .ins _ fs => LV.allF p fs
theorem MO.all_tt {p : Nat → Bool} (h : ∀ i, p i = true) : ∀ m : MO, MO.all p m = true
  | .gone => rfl
  | .lst xs => LV.allL_tt h xs
  | .dct xs => LV.allK_tt h xs
  | .ins _ xs => LV.allF_tt h xs
theorem MRep.cast (hc : Csts T l p Fz) {o : MO} {a : Addr} (q : MO.all p o = true) (m : MRep T H Fz A o a) : MRep (T.setL l) H Fz A o a := by
  cases o with
  | gone => trivial
  | lst xs => obtain ⟨vs, h, r⟩ := m; exact ⟨vs, h, r.cast hc q⟩
  | dct xs => obtain ⟨vs, h, r⟩ := m; exact ⟨vs, h, r.cast hc q⟩
  | ins c fs => obtain ⟨⟨dx, vs, h, r⟩, z⟩ := m; exact ⟨⟨dx, vs, h, r.cast hc q⟩, z⟩
/-- the slots ls may tell of lambdas as p says -/
def lsAll (p : Nat → Bool) (ls : Ls) : Prop := ∀ (i : Nat) v, ls[i]? = some (some v) → LV.all p v = true
theorem SR.cast (hc : Csts T l p Fz) {ls : Ls} {σ : L2.St} (q : lsAll p ls) (r : SR T Fz A ls σ) : SR (T.setL l) Fz A ls σ :=
  ⟨r.1, fun i v h => let ⟨x, h1, h2⟩ := r.2 i v h; ⟨x, h1, h2.cast hc (q i v h)⟩⟩
theorem Wd.cast (hc : Csts T l p Fz) (q : ∀ (r : Nat) o, st[r]? = some o → MO.all p o = true) (hs : ∀ ls σ, l.S = some (ls, σ) → SR (T.setL l) Fz A ls σ) (w : Wd T H Fz A st) : Wd (T.setL l) H Fz A st :=
  ⟨w.fz, w.len, fun r a o h1 h2 => (w.mo r a o h1 h2).cast hc (q r o h2), w.sep, w.inj, w.tr, w.tab, w.ntb, w.prs, hs, w.prt⟩
/-- the same lambdas, told with other slots -/
theorem csts_S {l' : Lm} (e : l.A = l'.A) : Csts (T.setL l) l' (fun _ => true) Fz := fun i a _ h φ hφ => h φ (by show l.A i = some φ; rw [e]; exact hφ)
/-- no lambda is known -/
theorem csts_no : Csts T ⟨fun _ => .none, (fun _ _ h => nomatch h), l.S⟩ (fun _ => true) Fz := fun i a _ h φ hφ => nomatch hφ
theorem ex_cast (hc : Csts T l (fun _ => true) Fz) {c : Nat} {fs : List (Nat × LV)} {d : Option Addr} (h : ExRep T Fz A c fs d) : ExRep (T.setL l) Fz A c fs d := by
  cases d with
  | none => exact h
  | some d => obtain ⟨vs, h1, h2, h3⟩ := h; exact ⟨vs, h1, h2.cast hc (LV.allF_tt (fun _ => rfl) _), h3⟩
/-- what is wanted behind, told with other lambdas -/
theorem Go.castV {l' : Lm} (hc : ∀ F, Csts (T.setL l) l' (fun _ => true) F) (hs : ∀ F B, Same Fz F → Ap A B → ∀ ls σ, l'.S = some (ls, σ) → SR (T.setL l') F B ls σ) {Q : VK} {ex : Xq} {x : Rz LV} (g : Go (T.setL l') Fz A (okV (T.setL l') Q) ex x) : Go (T.setL l) Fz A (okV (T.setL l) Q) ex x := by
  match x, g with
  | some (.ok v, st), g =>
    intro H F B h1 h2 w x r
    exact g H F B h1 h2 (w.cast (T := T.setL l) (l := l') (hc F) (fun r o _ => MO.all_tt (fun _ => rfl) o) (hs F B h1 h2)) x (r.cast (T := T.setL l) (hc F) (LV.all_tt (fun _ => rfl) v))
  | some (.ex c fs, st), g =>
    intro H F B d h1 h2 w e
    exact g H F B d h1 h2 (w.cast (T := T.setL l) (l := l') (hc F) (fun r o _ => MO.all_tt (fun _ => rfl) o) (hs F B h1 h2)) (ex_cast (T := T.setL l) (hc F) e)
end

/-! ### a lambda is made -/
/-- an object as it stands -/
def atO (f : Addr) (o : Obj) : HO := .ext fun h => h.get? f = some o
abbrev lamO (q : Str) (cells : List (Str × Addr)) (params : Arguments) (body : Expr) (scope : Scope) (pm : Value) (c' : Addr) (ctv : Value) : Obj := PySem.W.kla_obj "<lambda>" q params body scope (cloFrom cells scope.names []) pm c' ctv
/-- what is known of a lambda's object: q its name, cells the maker's -/
def lamP (q : Str) (cells : List (Str × Addr)) (params : Arguments) (body : Expr) (scope : Scope) : Addr → Hp → Prop := fun a F => ∃ (c' : Addr) (pm ctv : Value), F a = some (atO a (lamO q cells params body scope pm c' ctv)) ∧ F c' = some (LamX.CodeO c' q)
theorem lamP_mono {q : Str} {cells : List (Str × Addr)} {params : Arguments} {body : Expr} {scope : Scope} {a : Addr} {F F' : Hp} (s : Same F F') (h : lamP q cells params body scope a F) : lamP q cells params body scope a F' := by
  obtain ⟨c', pm, ctv, h1, h2⟩ := h; exact ⟨c', pm, ctv, s _ _ h1, s _ _ h2⟩
section
variable {X : Cx} {pins : List (Addr × Obj)} {σ : L2.St} {H : Hp} {s : Shared}
theorem lam_new {Ts : List (Addr × Str)} {c P : Addr} {params : Arguments} {body : Expr} {scope : Scope} {pos : Pos} {E : Value → Shared → Prop} {Q : Value → Shared → Prop} (I : Inv X pins σ H s) (tb : LamX.TabB X.base X.mg c P) (hcode : X.env.code = .ref c)
    (hin : (P, X.env.qual ++ "<lambda>") ∈ Ts) (hone : ∀ p ∈ Ts, p.1 = P → p.2 = X.env.qual ++ "<lambda>") (ts : LamX.Tabs Ts H) (nodef : defaultsOf params X.env = ([], [])) (caps : ∀ y ∈ scope.names, y.2 = .free → ∃ c, X.env.cells.lookup y.1 = some c)
    (go : ∀ (f c' : Addr) (pm ctv : Value) (H1 : Hp) (s1 : Shared), Inv X pins σ H1 s1 → LamX.ExtN H H1 → (∀ b, H b ≠ none → H1 b ≠ none) → LamX.Tabs Ts H1 → s1.heap.get? f = some (lamO (X.env.qual ++ "<lambda>") X.env.cells params body scope pm c' ctv) →
      H1 f = none → s.heap.objs.size ≤ f → H1 c' = some (LamX.CodeO c' (X.env.qual ++ "<lambda>")) → Q (.ref f) s1) : wpAny (model X.prog X.w) X.A (eval (.Lambda params body scope pos) X.env) Q E s := by
  obtain ⟨tab, eP, triples, known⟩ := ts _ hin
  have blt : s.heap.BuiltinsAt X.mg P := tb.bm.keeps I.bk
  have gP : s.heap.get? P = some { cls := .none, data := .fields tab } := I.hok P _ eP
  refine PySem.W.kla_eval nodef ?_
  rcases hcase : codeAmong pos tab.toList with _ | cv
  · refine PySem.W.kla_makeFunction (mg := X.mg) (c := c) (P := P) (ps := tab) (closure_ok caps) I.ok.glob (I.mod.glob.keeps I.bk) hcode (tb.code.keeps I.bk) gP triples hcase tb.gP blt ?_
    intro c' ctv hp tk ext ge lt rec' row
    obtain ⟨c2, oc, vs, t, e2, hoc, hd, hv⟩ := rec'
    cases e2
    have big : s.heap.objs.size ≤ hp.objs.size := Nat.le_trans ge (Nat.le_of_lt lt)
    have freeC : H c' = none := I.hok.fresh ge
    let fo : Obj := lamO (X.env.qual ++ "<lambda>") X.env.cells params body scope ((X.mg "__name__").getD .none) c' ctv
    have J := LamX.inv_table (t' := tk) (q := X.env.qual ++ "<lambda>") (more := #[rawInt pos.line, rawInt pos.col, .ref c']) (h' := hp.push fo) I eP (fun b o hb e => Heap.get?_push_of_some fo (ext b o hb e)) (Heap.get?_push_of_some fo row) ge ⟨oc, vs, t, Heap.get?_push_of_some fo hoc, hd, hv⟩
    have stays : LamX.ExtN H (upd (upd H P (.tbl (tab ++ #[rawInt pos.line, rawInt pos.col, .ref c']))) c' (LamX.CodeO c' (X.env.qual ++ "<lambda>"))) := fun b o e n => by
      have b1 : b ≠ c' := ne_of_none e freeC
      have b2 : b ≠ P := fun z => by subst z; rw [eP] at e; exact n tab (Option.some.inj e).symm
      rw [upd_ne b1, upd_ne b2]; exact e
    refine go hp.objs.size c' ((X.mg "__name__").getD .none) ctv _ _ J stays (fun b nb => ?_) (fun p hp' => ?_) (Heap.get?_push_size _ rfl) ?_ big upd_same
    · by_cases b1 : b = c'
      · rw [b1, upd_same]; exact fun z => nomatch z
      · rw [upd_ne b1]
        by_cases b2 : b = P
        · rw [b2, upd_same]; exact fun z => nomatch z
        · rw [upd_ne b2]; exact nb
    · have apart : ∀ {x : Addr} {qs : Array Value}, H x = some (.tbl qs) → x ≠ c' := fun e => ne_of_none e freeC
      by_cases hq : p.1 = P
      · rw [hone p hp' hq, hq]
        refine ⟨_, by rw [upd_ne (apart eP), upd_same], ?_, fun p' cv hcv => ?_⟩
        · rw [Array.toList_append]; exact PySem.TriplesOk_snoc _ _ _ _ triples
        · rw [Array.toList_append] at hcv
          rcases LamX.among_app _ triples hcv with z | z
          · obtain ⟨c0, e1, e2⟩ := known p' cv z
            exact ⟨c0, e1, stays _ _ e2 LamX.codeO_ne⟩
          · exact ⟨c', z, upd_same⟩
      · obtain ⟨qs, a1, a2, a3⟩ := ts p hp'
        refine ⟨qs, by rw [upd_ne (apart a1), upd_ne hq]; exact a1, a2, fun p' cv hcv => ?_⟩
        obtain ⟨c0, e1, e2⟩ := a3 p' cv hcv
        exact ⟨c0, e1, stays _ _ e2 LamX.codeO_ne⟩
    · rw [upd_ne (Nat.ne_of_gt lt), upd_ne (Nat.ne_of_gt (Nat.lt_of_lt_of_le (Heap.lt_size gP) big))]
      exact I.hok.fresh big
  · obtain ⟨c', e, hco⟩ := known pos cv hcase
    subst e
    refine PySem.W.kla_makeFunctionHit (mg := X.mg) (c := c) (P := P) (ps := tab) (closure_ok caps) I.ok.glob (I.mod.glob.keeps I.bk) hcode (tb.code.keeps I.bk) gP triples hcase blt ?_
    intro ctv hp tk ext big
    let fo : Obj := lamO (X.env.qual ++ "<lambda>") X.env.cells params body scope ((X.mg "__name__").getD .none) c' ctv
    have J : Inv X pins σ H { s with heap := hp.push fo, toks := tk } := I.kept fun b o e => Heap.get?_push_of_some fo (ext b o e)
    exact go hp.objs.size c' _ ctv H _ J (LamX.ExtN.refl H) (fun _ h => h) ts (Heap.get?_push_size _ rfl) (I.hok.fresh big) big hco
theorem Wd.extN {T : Tx X.K} {Fz H1 : Hp} {A : Ad} {st : Sto} (w : Wd T H Fz A st) (e : LamX.ExtN H H1) (n : ∀ b, H b ≠ none → H1 b ≠ none) (t : LamX.Tabs T.tabs H1) : Wd T H1 Fz A st where
  fz := fun b u h => e b u (w.fz b u h) fun ps z => w.ntb b ps (by rw [h, z])
  len := w.len
  mo := fun r a o h1 h2 => by
    have m := w.mo r a o h1 h2
    cases o with
    | gone => trivial
    | lst xs => obtain ⟨vs, h, r⟩ := m; exact ⟨vs, e _ _ h fun _ => nofun, r⟩
    | dct xs => obtain ⟨vs, h, r⟩ := m; exact ⟨vs, e _ _ h fun _ => nofun, r⟩
    | ins c fs => obtain ⟨⟨dx, vs, h, r⟩, z⟩ := m; exact ⟨⟨dx, vs, e _ _ h fun _ => nofun, r⟩, z⟩
  sep := w.sep
  inj := w.inj
  tr := fun r a h => n a (w.tr r a h)
  tab := t
  ntb := w.ntb
  prs := fun b u h => by
    obtain ⟨h1, h2, h3⟩ := w.prs b u h
    exact ⟨e b u h1 fun ps z => by have c := w.prt b u h; rw [z] at c; exact c, h2, h3⟩
  lam := w.lam
  prt := w.prt
/-- an object that is no changeable one is known from now on -/
theorem Wd.keepN {T : Tx X.K} {Fz : Hp} {A : Ad} {st : Sto} (w : Wd T H Fz A st) {p : Addr} {o : HO} (h : H p = some o) (nc : ¬ Chg o) (nt : ∀ ps, o ≠ .tbl ps) : ∃ F, Wd T H F A st ∧ Same Fz F ∧ F p = some o := by
  cases hF : Fz p with
  | some u =>
    have := w.fz p u hF
    rw [h] at this; cases this
    exact ⟨Fz, w, Same.refl _, hF⟩
  | none =>
    refine ⟨upd Fz p o, ⟨fun b u e => ?_, w.len, fun r a o' h1 h2 => (w.mo r a o' h1 h2).mono (same_upd hF) (Ap.refl A) rfl, fun r a o' h1 h2 h3 => ?_, w.inj, w.tr, w.tab, fun b ps e => ?_, fun b u e => ?_, fun ls σ e => (w.lam ls σ e).mono (same_upd hF) (Ap.refl A), w.prt⟩, same_upd hF, upd_same⟩
    · by_cases hb : b = p
      · subst hb; rw [upd_same] at e; cases e; exact h
      · rw [upd_ne hb] at e; exact w.fz _ _ e
    · have : a ≠ p := fun z => by
        obtain ⟨u, e1, e2⟩ := (w.mo r a o' h1 h2).chg h3
        rw [z, h] at e1; cases e1; exact nc e2
      rw [upd_ne this]; exact w.sep r a o' h1 h2 h3
    · by_cases hb : b = p
      · subst hb; rw [upd_same] at e; cases e; exact nt ps rfl
      · rw [upd_ne hb] at e; exact w.ntb b ps e
    · obtain ⟨k1, k2, k3⟩ := w.prs b u e
      have : b ≠ p := fun z => by rw [z, h] at k1; cases k1; exact nc (w.prt b o e)
      exact ⟨k1, by rw [upd_ne this]; exact k2, k3⟩
end
/-- what the making of a lambda asks of the def that runs -/
structure LamAt (X : Cx) (T : Tx X.K) : Prop where
  ex : ∃ c P, LamX.TabB X.base X.mg c P ∧ X.env.code = .ref c ∧ (P, X.env.qual ++ "<lambda>") ∈ T.tabs ∧ ∀ p ∈ T.tabs, p.1 = P → p.2 = X.env.qual ++ "<lambda>"
section
variable {X : Cx} {T : Tx X.K} {W : WX} {params : Arguments} {body : Expr} {scope : Scope} {pos : Pos} {i : Nat}
theorem ev_lam (hl : LamAt X T) (hi : ∀ φ, T.lmA i = some φ → φ = lamP (X.env.qual ++ "<lambda>") X.env.cells params body scope) (nodef : defaultsOf params X.env = ([], [])) (L : LamX.LamS X.env.scope scope) :
    PE X (.Lambda params body scope pos) (tEv T W (eK (.lam i))) := by
  refine ⟨fun pins s σ H Q I h => ?_⟩
  obtain ⟨ls, st, Fz, A, w, sr, g⟩ := h
  obtain ⟨c, P, tb, hcode, hin, hone⟩ := hl.ex
  refine lam_new I tb hcode hin hone w.tab nodef (L.has I.ok) fun f c' pm ctv H1 s1 J e1 n1 ts hf nf ge hc => ?_
  have w1 := w.extN e1 n1 ts
  have old : ∀ b o, s.heap.get? b = some o → b ≠ f := fun b o e z => Nat.lt_irrefl _ (Nat.lt_of_lt_of_le (Heap.lt_size e) (by rw [z]; exact ge))
  have h0 : X.s_0.heap.get? f = none := by
    cases e : X.s_0.heap.get? f with
    | none => rfl
    | some o => exact absurd (Nat.lt_of_lt_of_le (Heap.lt_size e) (Nat.le_trans I.sz ge)) (Nat.lt_irrefl _)
  have J2 := Inv.adopt (o := atO f (lamO (X.env.qual ++ "<lambda>") X.env.cells params body scope pm c' ctv)) J nf h0 (Nat.ne_of_lt (Nat.lt_of_lt_of_le I.lt ge))
    (fun x c e => by obtain ⟨v, o, ho, _⟩ := I.cell x c e; exact old c o ho) (fun p hp => old p.1 p.2 (I.pin p hp).1) ⟨hf, ⟨_, hf⟩, fun h1 h2 e st => st _ e⟩
  obtain ⟨F1, w2, s2, k2⟩ := w1.keepN hc (fun z => z) LamX.codeO_ne
  have w3 := w2.new (o := atO f (lamO (X.env.qual ++ "<lambda>") X.env.cells params body scope pm c' ctv)) nf fun ps z => nomatch z
  have s3 := same_upd (o := atO f (lamO (X.env.qual ++ "<lambda>") X.env.cells params body scope pm c' ctv)) (w2.fn nf)
  refine ⟨.ref f, _, J2, rfl, g _ _ A (s2.trans s3) (Ap.refl _) w3 (.ref f) (.lam fun φ hφ => ?_)⟩
  rw [hi φ hφ]
  exact ⟨c', pm, ctv, upd_same, s3 _ _ k2⟩
end

/-! ### a lambda is called by the def that got it -/
/-- the lambda as the def that made it knows it: kk the room, fb what its body says -/
structure LamOk (X : Cx) (T : Tx X.K) (kk : Nat) (params : Arguments) (body : Expr) (scope : Scope) (fb : Ev) : Prop where
  ls : LamX.LamS X.env.scope scope
  bind : ∀ (q : Str) (cl : List (Str × Addr)) (pm cv ctv : Value), bindArgs (PySem.W.kla_fn "<lambda>" q params body scope cl pm cv ctv) ⟨[], []⟩ = pure []
  body : ∀ (A : Around) (outer : List Env) (s : Shared) (H : Hp) (E : XK) (f c' : Addr), Room kk (A.deeper (LamX.lamEnv X scope s.heap.objs.size f c')) → Takes (LamX.lamCx X A outer s H E scope f c') (fun c d _ H' => E c d H') →
    PE (LamX.lamCx X A outer s H E scope f c') body (tEv T (fun c d _ H' => E c d H') fb)
/-- L tells what the lambdas answer, from the maker's slots ls0 -/
def LamTab (X : Cx) (T : Tx X.K) (kk : Nat) (ls0 : Ls) (L : Nat → Sto → Rz LV) : Prop := ∀ j st y, L j st = some y → ∃ params body scope fb, T.lmA j = some (lamP (X.env.qual ++ "<lambda>") X.env.cells params body scope) ∧ L j st = fb ls0 st ∧ LamOk X T kk params body scope fb
def eAct (i : Nat) (L : Nat → Sto → Rz LV) : Ev := fun ls st => match ls[i]? with
  | some (some (.lam j)) => L j st
  | _ => none
section
variable {X : Cx} {T : Tx X.K} {W : WX} {pins : List (Addr × Obj)} {σ : L2.St} {H : Hp} {s : Shared} {ls0 : Ls} {L : Nat → Sto → Rz LV} {kk : Nat}
theorem act_el {CXg : CXT} {Eg : XK} {Ng : List Str} {qg : Str} {sg : Scope} {g : Addr} {cdg : Value} {i : Nat} {a : Str} {pn : List (Addr × Obj)} {xe : Value → Shared → Prop} {p1 p2 : Pos}
    (I : Inv X pins σ H s) (hS : T.lmS = some (ls0, σ)) (hL : LamTab X T kk ls0 L) (tk : Takes ((cxOf CXg X.prog X.w X.K X.mg X.base Ng qg sg g cdg X.A X.stack s H Eg).tr pn xe) W) (hr : Room (kk + 1) (X.A.deeper (envOfC qg sg s.heap.objs.size g cdg)))
    (hN : Ng[i]? = some a) (hv : Vis sg a) (hd : (a == ("__debug__" : Str)) = false := by decide) (hcd : (a == ("__classdict__" : Str)) = false := by decide) :
    PE ((cxOf CXg X.prog X.w X.K X.mg X.base Ng qg sg g cdg X.A X.stack s H Eg).tr pn xe) (.Call (.Name a p1) [] [] p2) (tEv (K := X.K) T W (eAct i L)) := by
  refine ⟨fun pz sz σz Hz Q Iz h => ?_⟩
  obtain ⟨ls, st, Fz, A, w, sr, q⟩ := h
  unfold eAct at q
  split at q
  · rename_i j hj
    obtain ⟨x, hx, rx⟩ := sr.2 i _ hj
    cases rx with
    | @lam _ f hφ =>
    have : ∃ y, L j st = some y := by
      cases e : L j st with
      | none => rw [e] at q; exact q.elim
      | some y => exact ⟨y, rfl⟩
    obtain ⟨y, hy⟩ := this
    obtain ⟨params, body, scope, fb, hA, eL, lo⟩ := hL j st y hy
    obtain ⟨c', pm, ctv, hF, hC⟩ := hφ _ hA
    refine wpAny_Call_Name_kw (thn ((pe_var (pos := p1) (i := i) hN hv hd hcd).run pz sz σz Hz (fun v H1 => v = .ref f ∧ H1 = Hz) Iz ⟨.ref f, hx, rfl, rfl⟩) fun u s1 ⟨v, H1, I1, r1, ev, eH⟩ => ?_)
    subst ev eH
    obtain rfl : u = Value.ref f := r1
    have at1 : s1.heap.get? f = some (lamO (X.env.qual ++ "<lambda>") X.env.cells params body scope pm c' ctv) := (show ObjOk _ _ _ _ _ (.ext _) from I1.hok f _ (w.fz _ _ hF)).1
    obtain ⟨⟨oc, vs, t, hoc, hdc, hvc⟩, _, _⟩ := I1.hok c' _ (w.fz _ _ hC)
    refine PySem.W.callWith_F0 ⟨_, _, _, _, at1⟩ ?_
    have un : Un (frs X.stack) [] H H1 s.heap s1.heap := I1.base
    have run : codeAny (model X.prog X.w) (X.A.deeper (envOfC qg sg s.heap.objs.size g cdg)) (.call (.ref f) ⟨[], []⟩) (CR (L2.CX X.prog X.w) (envOfC qg sg s.heap.objs.size g cdg :: X.stack) X.prog X.w H1 s1 Q (WE W σz)) s1 := by
      refine PySem.W.kla_callFunE hr.depth at1 rfl lo.ls.co lo.ls.gen rfl ⟨c', oc, vs, t, rfl, hoc, hdc, hvc⟩ ?_
      rw [lo.bind]
      refine wpAny_pure (wpAny_newFunctionEnv (fun y hy => (lo.ls.own y hy).2) (fun y hy => absurd hy (by simp)) (fun h₁ hns hsb => ⟨I1.nolimit.fresh _ hsb, ?_⟩) lo.ls.kind)
      have kp : ∀ b o, s1.heap.get? b = some o → h₁.get? b = some o := fun b o e => hsb.extBut b o (Nat.ne_of_lt (Heap.lt_size e)) (Heap.get?_push_of_some _ e)
      have J : Inv (LamX.lamCx X (X.A.deeper (envOfC qg sg s.heap.objs.size g cdg)) (envOfC qg sg s.heap.objs.size g cdg :: X.stack) s1 H1 (WE W σz) scope f c') [] σ H1 { s1 with heap := h₁, toks := s1.toks + ([] : List (Str × Value)).length } :=
        LamX.lam_start2 I lo.ls I1.env0 hr.hd un hns kp
      have g' : Go T Fz A (okV T Q) (exW (fun c d _ H' => WE W σz c d H') σ) (fb ls0 st) := by rw [← eL]; exact q
      refine PySem.W.kla_codeExpr (wpAny_mono ((lo.body _ _ s1 H1 _ f c' (hr.deeper _) (takes_of rfl rfl rfl rfl)).run [] _ _ H1 Q J ⟨ls0, st, Fz, A, w, w.lam _ _ hS, g'⟩) (fun v s' hq => ?_) fun e s' hq => hq)
      obtain ⟨w', H', J', rv, q⟩ := hq
      exact ⟨w', H', J'.os, J'.bare, J'.base, J'.hok, rv, q⟩
    refine wpAny_call (codeAny_mono run fun r s' hq => ?_)
    cases r with
    | error e => exact passAt tk σz pz H1 s1 e s' I1 hq
    | ok fl =>
      cases fl with
      | ret u => exact I1.after hq
      | next => exact False.elim hq
      | brk => exact False.elim hq
      | cont => exact False.elim hq
  · exact q.elim
end
end EL

set_option Elab.async false
set_option linter.all false
set_option maxRecDepth 100000
set_option maxHeartbeats 1000000
/-! EL11: a def called with lambdas. -/
namespace EL
open PySem PySem.Spec PyProof.Rows L2

/-- the def g calls its parameter a (slot i): bg what its body says, given what the lambdas answer -/
def TakesLam (P : Program) (w : World) (K : PySem.W.Frag) (mg : Str → Option Value) (base : Heap) (T : Tx K) (N : List Str) (qual : Str) (scope : Scope) (g : Addr) (body : List Stmt) (a : Str) (i k : Nat) (bg : (Nat → Sto → Rz LV) → Sv) : Prop :=
  ∀ (l : Lm) (cdv : Value) (A : Around) (outer : List Env) (s : Shared) (H : Hp) (E : XK) (L : Nat → Sto → Rz LV), Room k (A.deeper (envOfC qual scope s.heap.objs.size g cdv)) →
    Takes (cxOf (L2.CX P w) P w K mg base N qual scope g cdv A outer s H E) (fun c d _ H' => E c d H') →
    (∀ (W : WX) (pn : List (Addr × Obj)) (xe : Value → Shared → Prop) (p1 p2 : Pos), Takes ((cxOf (L2.CX P w) P w K mg base N qual scope g cdv A outer s H E).tr pn xe) W →
      PE ((cxOf (L2.CX P w) P w K mg base N qual scope g cdv A outer s H E).tr pn xe) (.Call (.Name a p1) [] [] p2) (tEv (K := K) (T.setL l) W (eAct i L))) →
    PSs (cxOf (L2.CX P w) P w K mg base N qual scope g cdv A outer s H E) body (tSv (K := K) (T.setL l) (fun c d _ H' => E c d H') (bg L))
theorem TakesLam.mono {P : Program} {w : World} {K : PySem.W.Frag} {mg : Str → Option Value} {base : Heap} {T : Tx K} {N : List Str} {qual a : Str} {scope : Scope} {g : Addr} {body : List Stmt} {i k k' : Nat} {bg : (Nat → Sto → Rz LV) → Sv} (h : TakesLam P w K mg base T N qual scope g body a i k bg) (le : k ≤ k') :
    TakesLam P w K mg base T N qual scope g body a i k' bg := fun l cdv A outer s H E L hr => h l cdv A outer s H E L (hr.mono le)
/-- x(e, ..): the def x gets lambdas; Lf what they answer from the slots here -/
def eCallA (n : Nat) (bg : (Nat → Sto → Rz LV) → Sv) (Lf : Ls → Nat → Sto → Rz LV) (ds : List LV) (ss : List Src) (r : Av) : Ev := fun ls st => bnd (r ls st) fun vs st => runB n (bg (Lf ls)) (pick vs ds [] ss) st
section
variable {X : Cx} {T : Tx X.K} {l : Lm} {W : WX} {N ps : List Str} {x qual a : Str} {params : Arguments} {body : List Stmt} {scope : Scope} {dvs : List V} {kws : List (Str × V)} {f : Addr} {fd : FuncData} {i kk n : Nat} {bg : (Nat → Sto → Rz LV) → Sv} {ds : List LV} {ss : List Src} {p pos : Pos} {e : Expr} {es : List Expr} {fr : Av} {Lf : Ls → Nat → Sto → Rz LV}
theorem runL {pins : List (Addr × Obj)} {σ : L2.St} {H Fz : Hp} {A : Ad} {st : Sto} {s : Shared} {ls0 : Ls} {L : Nat → Sto → Rz LV} {args : Args} {us : List Value} {xs : List V} {vs : List LV} {Q : VK} {E : XK} (I : Inv X pins σ H s) (hS : l.S = some (ls0, σ)) (G : TakesLam X.prog X.w X.K X.mg X.base T N qual scope f body a i (kk + 1) bg)
    (F : FunD X.K x qual params body scope dvs kws f fd) (S : FnScope N ps scope) (hL : LamTab X (T.setL l) kk ls0 L) (hr : Room (kk + 2) X.A) (hN : N[i]? = some a) (hv : Vis scope a) (hb : BindsTo s fd args (ps.zip us)) (r : Vals xs us) (hl : xs.length = ps.length)
    (w : Wd (T.setL l) H Fz A st) (px : Reps (T.setL l) Fz A vs xs) (g : Go (T.setL l) Fz A (okV (T.setL l) Q) E (runB N.length (bg L) vs st)) (hd : (a == ("__debug__" : Str)) = false) (hcd : (a == ("__classdict__" : Str)) = false) :
    codeAny (model X.prog X.w) X.A (.call (.ref f) args) (CR (L2.CX X.prog X.w) X.stack X.prog X.w H s Q E) s := by
  obtain ⟨oc, od, dV, kV, doc, pm, an, cdv, ct, osl, rfl, lk, hcode, _, _⟩ := F.ex
  refine LamX.run_ofS lk hcode S hr I.env0 hb r hl fun hr' => ⟨_, G l cdv X.A X.stack s H E L hr' (takes_of rfl rfl rfl rfl) (fun W pn xe p1 p2 tk => act_el I hS hL tk hr' hN hv hd hcd), _, st, Fz, A, w, sr_start (N := N) px, ?_⟩
  unfold runB at g
  cases e : bg L (vs.map some ++ List.replicate (N.length - vs.length) .none) st with
  | none => rw [e] at g; exact g.elim
  | some y =>
    rw [e] at g
    match y, g with
    | (.nx ls', st'), g => exact fun H F B σ h1 h2 w' sr' => g H F B h1 h2 w' _ .non
    | (.bk ls', st'), g => exact g.elim
    | (.ct ls', st'), g => exact g.elim
    | (.rt v, st'), g => exact fun H F B x h1 h2 w' r' => g H F B h1 h2 w' x r'
    | (.ex c fs ls', st'), g => exact fun H F B σ d h1 h2 w' sr' e => g H F B d h1 h2 w' e
theorem ev_callA (G : TakesLam X.prog X.w X.K X.mg X.base T N qual scope f body a i (kk + 1) bg) (F : FunD X.K x qual params body scope dvs kws f fd) (S : FnScope N ps scope) (kb : KB X.K fd ps n [] ds ss) (hr : Room (kk + 2) X.A) (hg : Gl X x) (hm : X.mg x = some (.ref f)) (ha : EA X (T.setL l) W (e :: es) fr) (tk : Takes X W)
    (hL : ∀ ls σ, LamTab X (T.setL (l.setS ls σ)) kk ls (Lf ls)) (hN : N[i]? = some a) (hv : Vis scope a) (hn : (e :: es).length = n := by rfl) (hd : (a == ("__debug__" : Str)) = false := by decide) (hcd : (a == ("__classdict__" : Str)) = false := by decide) (hdb : (x == ("__debug__" : Str)) = false := by decide)
    (he : starEach (e :: es) X.env = (false, eval e X.env) :: starEach es X.env := by rfl) (hpl : (backTo pos (starEach es X.env)).any (·.1) = false := by rfl) :
    PE X (.Call (.Name x p) (e :: es) [] pos) (tEv (T.setL l) W (eCallA N.length bg Lf ds ss fr)) := by
  refine ⟨fun pins s σ H Q I h => ?_⟩
  obtain ⟨ls, st, Fz, A, w, sr, g⟩ := h
  refine wpAny_Call_Name_kw (ld_glob I hg hm ?_ hdb)
  refine PySem.W.callWith_K (h₀ := X.base) I.ok.mod.kin F.kp (thn (ha.pa.run pos pins s σ H _ I (tAv_len ha.len w sr g)) fun us s1 ⟨xs, H1, I1, r1, q1⟩ => ⟨I1.kIn, ?_⟩) he hpl
  obtain ⟨vs, F1, A1, st1, s1', p1, w1, sr1, rp1, l1, g1⟩ := q1
  obtain ⟨⟨its, dvs', rd, cd, hb⟩, hlen, hok⟩ := kb
  have n0 : vs.length = n := l1.trans hn
  have n1 : us.length = n := by rw [← r1.length, ← rp1.length]; exact n0
  have hl : (pick xs dvs' [] ss).length = ps.length := by
    rw [← (pick_reps rp1 (csts_reps (T := T.setL l) (Fz := F1) (A := A1) cd) .nil ss).length, ← hlen]
    exact pick_len (by rw [n0]; exact hok)
  have c1 : ∀ F, Csts (T.setL l) (l.setS ls σ) (fun _ => true) F := fun F => csts_S rfl
  have c2 : ∀ F, Csts (T.setL (l.setS ls σ)) l (fun _ => true) F := fun F => csts_S rfl
  have sr2 : SR (T.setL (l.setS ls σ)) F1 A1 ls σ := sr1.cast (T := T.setL l) (c1 F1) fun i v _ => LV.all_tt (fun _ => rfl) v
  have w2 : Wd (T.setL (l.setS ls σ)) H1 F1 A1 st1 := w1.cast (T := T.setL l) (c1 F1) (fun r o _ => MO.all_tt (fun _ => rfl) o) fun ls' σ' e' => by cases e'; exact sr2
  have g2 : Go (T.setL (l.setS ls σ)) F1 A1 (okV (T.setL (l.setS ls σ)) Q) (exW W σ) (runB N.length (bg (Lf ls)) (pick vs ds [] ss) st1) :=
    Go.castV (T := T) (l := l.setS ls σ) (l' := l) c2 (fun F B h1 h2 ls' σ' e' => (w1.lam ls' σ' e').mono h1 h2) g1
  have rp2 : Reps (T.setL (l.setS ls σ)) F1 A1 vs xs := rp1.cast (T := T.setL l) (c1 F1) (LV.allL_tt (fun _ => rfl) vs)
  refine wpAny_call (codeAny_mono (runL (E := WE W σ) I1 rfl G F S (hL ls σ) hr hN hv (hb s1 us [] I1.kIn n1 rfl) (pick_vals r1 rd .nil ss) hl w2 (pick_reps rp2 (csts_reps cd) .nil ss) g2 hd hcd) fun r s' hq => ?_)
  cases r with
  | error e => exact passAt tk σ pins H1 s1 e s' I1 hq
  | ok fl =>
    cases fl with
    | ret u => exact I1.after hq
    | next => exact False.elim hq
    | brk => exact False.elim hq
    | cont => exact False.elim hq
end
end EL

set_option Elab.async false
set_option linter.all false
set_option maxRecDepth 100000
set_option maxHeartbeats 1000000
/-! EL12: defs that make lambdas; comprehensions whose parts call them. -/
namespace EL
open PySem PySem.Spec PyProof.Rows L2

/-! ### a list comprehension, its parts told with what the def itself knows -/
/-- the block's start, seen from the def -/
structure BlkAt (X : Cx) (pins : List (Addr × Obj)) (σ : L2.St) (s3 : Shared) (H3 : Hp) (fp : List Addr) : Prop where
  inv : Inv X pins σ H3 s3
  fr : ∀ b ∈ fp, FpOk X pins H3 b ∧ b < s3.heap.objs.size
theorem BlkAt.out {X : Cx} {pins pb : List (Addr × Obj)} {σ σb : L2.St} {s3 s5 : Shared} {H3 H5 : Hp} {fp : List Addr} {scope : Scope} {ce : Env} (B : BlkAt X pins σ s3 H3 fp) (J : Inv (X.blk s3 H3 scope ce fp) pb σb H5 s5) : Inv X pins σ H5 s5 :=
  B.inv.call' (ch := fp) J.os J.base J.hok J.bare fun b hb => by
    obtain ⟨⟨_, a1, _, a3, a4, a5⟩, _⟩ := B.fr b hb
    exact ⟨a3, a1, a4, a5⟩
theorem lc_run {X : Cx} {pins : List (Addr × Obj)} {s : Shared} {σ : L2.St} {H : Hp} {Q : VK} {elt tg iter : Expr} {ifs : List Expr} {scope : Scope} {own : List (Str × Nat)} {pos : Pos} {wi : TI} {g : TG} {tt : TT} {te : TE}
    (calm : X.calm = true) (nod : X.N.Nodup) (I : Inv X pins σ H s) (src : PI X tg iter wi) (bo : BlkOk X.N X.env.scope scope own)
    (parts : ∀ (s3 : Shared) (H3 : Hp) (C : Addr) (cl : List (Str × Addr)) (fp : List Addr), BlkAt X pins σ s3 H3 fp → PG (X.blk s3 H3 scope (compEnvC scope cl C X.env) fp) tg g ∧ PTs (X.blk s3 H3 scope (compEnvC scope cl C X.env) fp) ifs tt ∧ PE (X.blk s3 H3 scope (compEnvC scope cl C X.env) fp) elt te)
    (nofold : ∀ x, foldedSetIterable iter X.env x = pure x) (h : tLc wi g tt te (own.map (·.2)) σ H Q) : wpAny (model X.prog X.w) X.A (eval (.ListComp elt [⟨tg, iter, ifs, 0⟩] scope pos) X.env) (EP X pins σ Q) X.xe s := by
  rw [eval_ListComp]
  let sl := own.map (·.2)
  have caps : ∀ y ∈ scope.names, y.2 = .free → ∃ c, X.env.cells.lookup y.1 = some c := fun y hy e => (bo.free y hy e).elim (fun k => I.ok.has _ (.inl k)) (fun k => I.ok.has _ (.inr k))
  refine wpAny_comprehension_free (use := none) rfl nofold (closure_ok caps) bo.kind (fun y hy e => (bo.uniq y hy).trans (congrArg some e)) ?_
  refine thn (src.run pins s σ H _ I h) fun _ _ hx => thn hx fun itv s2 ready => ?_
  obtain ⟨ia, fp, tn, J, H2, rfl, I2, trn, at2, free2, rest⟩ := ready
  refine wpAny_newObj_type (newEnv_comp ?_) (Nat.zero_le _)
  have newL : H2 s2.heap.objs.size = none := I2.hok.fresh (Nat.le_refl _)
  obtain ⟨Wn, ⟨m0, start⟩, turn⟩ := rest _ newL
  obtain ⟨s3, e3⟩ : ∃ s3 : Shared, s3 = { s2 with heap := s2.heap.push { cls := .type "list", data := .seq ([] : List Value).toArray } } := ⟨_, rfl⟩
  have grown : s3.heap = s2.heap.push { cls := .type "list", data := .seq ([] : List Value).toArray } := by rw [e3]
  obtain ⟨H3, eH3⟩ : ∃ H3 : Hp, H3 = upd H2 s2.heap.objs.size (.lst []) := ⟨_, rfl⟩
  have I3 : Inv X pins σ H3 s3 := by
    subst e3 eH3
    exact I2.laid (t' := s2.toks) (fun b o e => Heap.get?_push_of_some _ e) (Nat.le_refl _) ⟨Nat.zero_le _, [], 0, .nil, Heap.get?_push_size _ rfl⟩
  have B : BlkAt X pins σ s3 H3 fp := ⟨I3, fun b hb => by
    obtain ⟨o, e, _⟩ := trn.obj _ _ at2 b hb
    have lt := Heap.lt_size e
    exact ⟨⟨by rw [eH3, upd_ne (Nat.ne_of_lt lt)]; exact (free2 b hb).1, (free2 b hb).2⟩, by rw [grown, Heap.size_push]; exact Nat.lt_succ_of_lt lt⟩⟩
  have at3 : tn 0 s3.heap := trn.keep _ _ _ at2 fun b _ o e => by rw [grown]; exact Heap.get?_push_of_some _ e
  have I4 := block_start I3 bo nod B.fr
  obtain ⟨pg, pt, pe⟩ := parts s3 H3 s3.heap.objs.size (cellsFrom (s3.heap.objs.size + 1) scope.names (cloFrom X.env.cells scope.names [])) fp B
  have start : Wn 0 m0 H3 := by rw [eH3]; exact start
  rw [← e3]
  show codeAny _ _ (.compStart _ 0 _ _ (compEnvC scope (cellsFrom (s3.heap.objs.size + 1) scope.names (cloFrom X.env.cells scope.names [])) s3.heap.objs.size X.env)) _ _
  obtain ⟨ce, ece⟩ : ∃ ce, ce = compEnvC scope (cellsFrom (s3.heap.objs.size + 1) scope.names (cloFrom X.env.cells scope.names [])) s3.heap.objs.size X.env := ⟨_, rfl⟩
  have hce : ce.locals = s3.heap.objs.size := by rw [ece]; rfl
  rw [← ece] at I4 pg pt pe ⊢
  obtain ⟨s4, e4⟩ : ∃ s4 : Shared, s4 = { s3 with heap := pushCells (s3.heap.push { cls := .type "dict", data := .dict #[] }) scope.names } := ⟨_, rfl⟩
  rw [← e4] at I4 ⊢
  have at4 : tn 0 s4.heap := trn.keep _ _ _ at3 fun b _ o e => by
    rw [e4]
    exact pushCells_keeps _ _ _ _ (Heap.get?_push_of_some _ e)
  let Xb : Cx := X.blk s3 H3 scope ce fp
  have fpb : ∀ {σ' : L2.St} {H' : Hp} {s' : Shared}, Inv Xb [] σ' H' s' → (∀ b ∈ fp, H' b = none) → ∀ b ∈ fp, FpOk Xb [] H' b := fun {σ' H' s'} K hn b hb =>
    ⟨hn b hb, (K.ok.exf b hb).1, K.ok.exfs b hb, .inl hb, fun x c e => (K.ok.exf b hb).2 x c e, fun p hp => nomatch (show p ∈ ([] : List (Addr × Obj)) from hp)⟩
  have loop : codeAny (model X.prog X.w) X.A (.compLoop (.ListComp elt [⟨tg, iter, ifs, 0⟩] scope pos) 0 (.ref ia) (.ref s2.heap.objs.size) ce) (compPost (model X.prog X.w) X.A X.xe none (EP X pins σ Q) (.ref s2.heap.objs.size) s3.heap.objs.size) s4 := by
    refine compLoop_any (fun n s' => ∃ i H', Inv Xb [] (L2.wipe σ sl) H' s' ∧ tn i s'.heap ∧ (∀ b ∈ fp, H' b = none) ∧ Wn i n H') ?_ m0 ⟨0, H3, I4, at4, fun b hb => (B.fr b hb).1.1, start⟩
    rintro n s5 ⟨i, H5, I5, at5, n5, w5⟩
    rcases turn i n H5 w5 with ⟨stop, done⟩ | ⟨goes, Nx, less, step⟩
    · refine thnF (trn.done Xb rfl rfl rfl calm i [] s5 _ H5 (fun _ _ => False) I5 (fpb I5 n5) at5 stop) ?_
      rintro _ s6 ⟨rfl, I6⟩
      have I7 : Inv X pins σ H5 s6 := B.out I6
      have nC : H5 s3.heap.objs.size = none := by rw [← hce]; exact I6.free
      obtain ⟨m, hn, _⟩ := I6.loc
      have hn' : s6.heap.Ns s3.heap.objs.size m := by rw [← hce]; exact hn
      obtain ⟨b0, b1, b2, b3, b4, b5⟩ := I3.fpOk (Nat.le_refl _) nC
      exact ⟨m, hn', fun h' sb => ⟨.ref s2.heap.objs.size, H5, I7.turned (t' := s6.toks) (fun b o hb e => (sb.2 b hb).trans e) b0 b1 b3 b4 b5, rfl, done⟩⟩
    · refine thnF (trn.item Xb rfl rfl rfl calm i [] s5 _ H5 (fun _ _ => False) I5 (fpb I5 n5) at5 goes) ?_
      rintro _ s6 ⟨u, rfl, h6⟩
      refine thnF h6 ?_
      rintro _ s7 ⟨x, H7, I7, r7, y7, at7, n7⟩
      have P7 := I7.pinned (fpb I7 n7) (trn.obj _ _ at7)
      refine thnF (pg.run _ s7 _ H7 x u _ P7 r7 (step x H7 y7)) ?_
      rintro _ s8 ⟨σ8, H8, I8, back, q8⟩
      have lens : (L2.wipe σ sl).length = σ8.length := (congrArg List.length back).symm.trans (L2.wipe_length _ _)
      have next : ∀ {s' : Shared} {H' : Hp}, Inv Xb ([] ++ pinsAt fp s7.heap) σ8 H' s' → Nx H' → ∃ m, m < n ∧ ∃ i H', Inv Xb [] (L2.wipe σ sl) H' s' ∧ tn i s'.heap ∧ (∀ b ∈ fp, H' b = none) ∧ Wn i m H' := by
        intro s' H' K nx
        obtain ⟨m', hm, w'⟩ := less H' nx
        have kept : ∀ b ∈ fp, ∀ o, s7.heap.get? b = some o → s'.heap.get? b = some o ∧ H' b = none := fun b hb o e => by
          obtain ⟨z1, z2, _⟩ := K.pin (b, o) (List.mem_append_right _ (List.mem_append_right _ (mem_pinsAt hb e)))
          exact ⟨z1, z2⟩
        refine ⟨m', hm, i + 1, H', (K.unpinned (pins := [])).weak lens fun j v e => ?_, trn.keep _ _ _ at7 fun b hb o e => (kept b hb o e).1, fun b hb => ?_, w'⟩
        · have e : (L2.wipe σ8 sl)[j]? = some (some v) := (congrArg (·[j]?) back).trans e
          exact (wipe_some e).1
        · obtain ⟨o, e, _⟩ := trn.obj _ _ at7 b hb
          exact (kept b hb o e).2
      refine thnF (pt.run _ s8 σ8 H8 _ I8 q8) ?_
      rintro (_ | _) s9 ⟨H9, I9, q9⟩
      · exact next I9 q9
      · refine thnF (pe.run _ s9 σ8 H9 _ I9 q9) ?_
        rintro z s10 ⟨yv, H10, I10, r10, acc, atD, room, nx⟩
        exact app_ok (X := Xb) I10 atD room r10 fun s11 I11 => next I11 nx
  exact codeAny_compStart_list loop (trn.self X.A 0 _ _ _ at4 loop)

section
variable {X : Cx} {T : Tx X.K} {l : Lm} {W : WX} {elt tg iter : Expr} {ifs : List Expr} {scope : Scope} {own : List (Str × Nat)} {pos : Pos} {src : Iv} {g : Tg} {sl : List Nat} {t : Ls → Tv} {fe : Ls → Ev}
/-- [e for g in src if t], e and t told with the def's own slots -/
theorem ev_compA (hc : X.calm = true) (hN : X.N.Nodup) (hi : ∀ S, ESrc X (T.setL S) W tg iter src) (ok : BlkOk X.N X.env.scope scope own) (hsl : ∀ j ∈ sl, j ∈ own.map (·.2))
    (hb : ∀ (ls : Ls) (σ : L2.St) (pins : List (Addr × Obj)) (s3 : Shared) (H3 : Hp) (C : Addr) (cl : List (Str × Addr)) (fp : List Addr), BlkAt X pins σ s3 H3 fp → PG (X.blk s3 H3 scope (compEnvC scope cl C X.env) fp) tg (vG (T.setL (l.setS ls σ)) g sl) ∧
      PTs (X.blk s3 H3 scope (compEnvC scope cl C X.env) fp) ifs (tTv (X := X.blk s3 H3 scope (compEnvC scope cl C X.env) fp) (T.setL (l.setS ls σ)) W0 (t ls)) ∧ PE (X.blk s3 H3 scope (compEnvC scope cl C X.env) fp) elt (tEv (T.setL (l.setS ls σ)) W0 (fe ls)))
    (hs : ∀ x, foldedSetIterable iter X.env x = pure x := by intro _; rfl) : PE X (.ListComp elt [⟨tg, iter, ifs, 0⟩] scope pos) (tEv (T.setL l) W (fun ls => eComp src (own.map (·.2)) g (t ls) (fe ls) ls)) := by
  refine ⟨fun pins s σ H Q I h => ?_⟩
  obtain ⟨ls, st, Fz, A, w, sr, q⟩ := h
  obtain ⟨wi, hpi, hrd⟩ := (hi (l.setS ls σ)).ex
  refine lc_run hc hN I hpi ok (fun s3 H3 C cl fp B => hb ls σ pins s3 H3 C cl fp B) hs (lc_rd (z := false) (T := T.setL (l.setS ls σ)) hrd hsl ?_)
  have c1 : ∀ F, Csts (T.setL l) (l.setS ls σ) (fun _ => true) F := fun F => csts_S rfl
  have c2 : ∀ F, Csts (T.setL (l.setS ls σ)) l (fun _ => true) F := fun F => csts_S rfl
  have sr2 : SR (T.setL (l.setS ls σ)) Fz A ls σ := sr.cast (T := T.setL l) (c1 Fz) fun i v _ => LV.all_tt (fun _ => rfl) v
  exact ⟨ls, st, Fz, A, w.cast (T := T.setL l) (c1 Fz) (fun r o _ => MO.all_tt (fun _ => rfl) o) fun ls' σ' e' => (by cases e'; exact sr2), sr2,
    Go.castV (T := T) (l := l.setS ls σ) (l' := l) c2 (fun F B h1 h2 ls' σ' e' => (w.lam ls' σ' e').mono h1 h2) q⟩
end
/-! ### a def called with lambdas, in a block -/
section
variable {X : Cx} {T : Tx X.K} {l : Lm} {N ps : List Str} {x qual a : Str} {params : Arguments} {body : List Stmt} {scope bs : Scope} {dvs : List V} {kws : List (Str × V)} {f : Addr} {fd : FuncData} {i kk n : Nat} {bg : (Nat → Sto → Rz LV) → Sv} {ds : List LV} {ss : List Src} {p pos : Pos} {e : Expr} {es : List Expr} {fr : Av} {L : Nat → Sto → Rz LV}
  {pins0 : List (Addr × Obj)} {σ0 : L2.St} {ls0 : Ls} {s3 : Shared} {H3 : Hp} {fp : List Addr} {ce : Env}
theorem ev_callB (B : BlkAt X pins0 σ0 s3 H3 fp) (hS : l.S = some (ls0, σ0)) (G : TakesLam X.prog X.w X.K X.mg X.base T N qual scope f body a i (kk + 1) bg) (F : FunD X.K x qual params body scope dvs kws f fd) (S : FnScope N ps scope) (kb : KB X.K fd ps n [] ds ss) (hr : Room (kk + 2) X.A) (hg : Gl (X.blk s3 H3 bs ce fp) x) (hm : X.mg x = some (.ref f)) (ha : EA (X.blk s3 H3 bs ce fp) (T.setL l) W0 (e :: es) fr)
    (hL : LamTab X (T.setL l) kk ls0 L) (hN : N[i]? = some a) (hv : Vis scope a) (hn : (e :: es).length = n := by rfl) (hd : (a == ("__debug__" : Str)) = false := by decide) (hcd : (a == ("__classdict__" : Str)) = false := by decide) (hdb : (x == ("__debug__" : Str)) = false := by decide)
    (he : starEach (e :: es) (X.blk s3 H3 bs ce fp).env = (false, eval e (X.blk s3 H3 bs ce fp).env) :: starEach es (X.blk s3 H3 bs ce fp).env := by rfl) (hpl : (backTo pos (starEach es (X.blk s3 H3 bs ce fp).env)).any (·.1) = false := by rfl) :
    PE (X.blk s3 H3 bs ce fp) (.Call (.Name x p) (e :: es) [] pos) (tEv (T.setL l) W0 (eCallA N.length bg (fun _ => L) ds ss fr)) := by
  refine ⟨fun pins s σ H Q I h => ?_⟩
  obtain ⟨ls, st, Fz, A, w, sr, g⟩ := h
  refine wpAny_Call_Name_kw (ld_glob I hg hm ?_ hdb)
  refine PySem.W.callWith_K (h₀ := X.base) I.ok.mod.kin F.kp (thn (ha.pa.run pos pins s σ H _ I (tAv_len ha.len w sr g)) fun us s1 ⟨xs, H1, I1, r1, q1⟩ => ⟨I1.kIn, ?_⟩) he hpl
  obtain ⟨vs, F1, A1, st1, s1', p1, w1, sr1, rp1, l1, g1⟩ := q1
  obtain ⟨⟨its, dvs', rd, cd, hb⟩, hlen, hok⟩ := kb
  have n0 : vs.length = n := l1.trans hn
  have n1 : us.length = n := by rw [← r1.length, ← rp1.length]; exact n0
  have hl : (pick xs dvs' [] ss).length = ps.length := by
    rw [← (pick_reps rp1 (csts_reps (T := T.setL l) (Fz := F1) (A := A1) cd) .nil ss).length, ← hlen]
    exact pick_len (by rw [n0]; exact hok)
  refine wpAny_call (codeAny_mono (runL (X := X) (T := T) (l := l) (E := WE W0 σ) (B.out I1) hS G F S hL hr hN hv (hb s1 us [] I1.kIn n1 rfl) (pick_vals r1 rd .nil ss) hl w1 (pick_reps rp1 (csts_reps cd) .nil ss) g1 hd hcd) fun r s' hq => ?_)
  cases r with
  | error e => exact passAt takes0 σ pins H1 s1 e s' I1 hq
  | ok fl =>
    cases fl with
    | ret u => exact I1.after hq
    | next => exact False.elim hq
    | brk => exact False.elim hq
    | cont => exact False.elim hq
end

/-! ### defs that make lambdas -/
mutual
def LV.top : LV → Nat
  | .tup xs => LV.topL xs
  | .lst xs => LV.topL xs
  | .dct kvs => LV.topK kvs
  | .ins _ fs => LV.topF fs
  | .exc _ fs => LV.topF fs
  | .lam i => i + 1
  | _ => 0
def LV.topL : List LV → Nat
  | [] => 0
  | x :: r => max (LV.top x) (LV.topL r)
def LV.topF : List (Nat × LV) → Nat
  | [] => 0
  | (_, x) :: r => max (LV.top x) (LV.topF r)
def LV.topK : List (Key × LV) → Nat
  | [] => 0
  | (_, x) :: r => max (LV.top x) (LV.topK r)
end
mutual
theorem LV.all_top {k : Nat} : ∀ v : LV, LV.top v ≤ k → LV.all (fun i => decide (i < k)) v = true
  | .non, _ => rfl
  | .bl _, _ => rfl
  | .int _, _ => rfl
  | .str _, _ => rfl
  | .ty _, _ => rfl
  | .cl _, _ => rfl
  | .ob _, _ => rfl
  | .tup xs, h => LV.allL_top xs h
  | .lst xs, h => LV.allL_top xs h
  | .dct xs, h => LV.allK_top xs h
  | .ins _ xs, h => LV.allF_top xs h
  | .exc _ xs, h => LV.allF_top xs h
  | .lam i, h => decide_eq_true (show i < k from h)
theorem LV.allL_top {k : Nat} : ∀ v : List LV, LV.topL v ≤ k → LV.allL (fun i => decide (i < k)) v = true
  | [], _ => rfl
  | x :: r, h => by
    unfold LV.topL at h
    unfold LV.allL
    rw [LV.all_top x (Nat.le_trans (Nat.le_max_left _ _) h), LV.allL_top r (Nat.le_trans (Nat.le_max_right _ _) h)]; rfl
theorem LV.allF_top {k : Nat} : ∀ v : List (Nat × LV), LV.topF v ≤ k → LV.allF (fun i => decide (i < k)) v = true
  | [], _ => rfl
  | (_, x) :: r, h => by
    unfold LV.topF at h
    unfold LV.allF
    rw [LV.all_top x (Nat.le_trans (Nat.le_max_left _ _) h), LV.allF_top r (Nat.le_trans (Nat.le_max_right _ _) h)]; rfl
theorem LV.allK_top {k : Nat} : ∀ v : List (Key × LV), LV.topK v ≤ k → LV.allK (fun i => decide (i < k)) v = true
  | [], _ => rfl
  | (_, x) :: r, h => by
    unfold LV.topK at h
    unfold LV.allK
    rw [LV.all_top x (Nat.le_trans (Nat.le_max_left _ _) h), LV.allK_top r (Nat.le_trans (Nat.le_max_right _ _) h)]; rfl
end
def MO.top : MO → Nat
  | .gone => 0
  | .lst xs => LV.topL xs
  | .dct xs => LV.topK xs
  | .ins _ fs => LV.topF fs
def Sto.top : Sto → Nat
  | [] => 0
  | m :: r => max m.top (Sto.top r)
theorem MO.all_top {k : Nat} : ∀ m : MO, m.top ≤ k → MO.all (fun i => decide (i < k)) m = true
  | .gone, _ => rfl
  | .lst xs, h => LV.allL_top xs h
  | .dct xs, h => LV.allK_top xs h
  | .ins _ xs, h => LV.allF_top xs h
theorem Sto.all_top {k : Nat} : ∀ {st : Sto} {r : Nat} {o : MO}, Sto.top st ≤ k → st[r]? = some o → MO.all (fun i => decide (i < k)) o = true
  | m :: st, 0, o, h, e => by cases e; exact MO.all_top _ (Nat.le_trans (Nat.le_max_left _ _) h)
  | m :: st, r + 1, o, h, e => Sto.all_top (st := st) (r := r) (Nat.le_trans (Nat.le_max_right _ _) h) (by simpa using e)
/-- a number above all lambdas that are known -/
def freeN (vs : List LV) (st : Sto) : Nat := max (LV.topL vs) (Sto.top st)
def runLM (n : Nat) (b : Nat → Sv) : Mv := fun vs st => runB n (b (freeN vs st)) vs st
/-- the lambdas of a def that runs: from the number k on -/
def lmOf (k : Nat) (q : Str) (cells : List (Str × Addr)) (lams : List (Arguments × Expr × Scope)) : Lm where
  A := fun i => if i < k then none else match lams[i - k]? with
    | some (p, b, sc) => some (lamP q cells p b sc)
    | none => none
  M := fun i φ h a F F' s hφ => by
    split at h
    · cases h
    · split at h
      · cases h; exact lamP_mono s hφ
      · cases h
  S := none
theorem lmOf_at {k j : Nat} {q : Str} {cells : List (Str × Addr)} {lams : List (Arguments × Expr × Scope)} {p : Arguments} {b : Expr} {sc : Scope} (h : lams[j]? = some (p, b, sc)) : (lmOf k q cells lams).A (k + j) = some (lamP q cells p b sc) := by
  unfold lmOf
  simp only
  rw [if_neg (by omega), Nat.add_sub_cancel_left, h]
/-- what the lambdas answer: fbs what their bodies say -/
def lamA (k : Nat) (fbs : List Ev) : Ls → Nat → Sto → Rz LV := fun ls j st => if j < k then none else match fbs[j - k]? with
  | some fb => fb ls st
  | none => none
inductive LamsOk (X : Cx) (T : Tx X.K) (kk : Nat) : List (Arguments × Expr × Scope) → List Ev → Prop where
  | nil : LamsOk X T kk [] []
  | cons {p : Arguments} {b : Expr} {sc : Scope} {fb : Ev} {ls : List (Arguments × Expr × Scope)} {fs : List Ev} (h : LamOk X T kk p b sc fb) (r : LamsOk X T kk ls fs) : LamsOk X T kk ((p, b, sc) :: ls) (fb :: fs)
theorem LamsOk.get {X : Cx} {T : Tx X.K} {kk : Nat} : ∀ {ls : List (Arguments × Expr × Scope)} {fs : List Ev} {i : Nat} {fb : Ev}, LamsOk X T kk ls fs → fs[i]? = some fb → ∃ p b sc, ls[i]? = some (p, b, sc) ∧ LamOk X T kk p b sc fb
  | _, _, _, _, .nil, h => by simp at h
  | _, _, 0, _, .cons h r, e => by simp at e; subst e; exact ⟨_, _, _, rfl, h⟩
  | _, _, i + 1, _, .cons h r, e => by simpa using LamsOk.get (i := i) r (by simpa using e)
theorem lamTab_of {X : Cx} {T : Tx X.K} {kk k : Nat} {lams : List (Arguments × Expr × Scope)} {fbs : List Ev} {ls : Ls} {S : Option (Ls × List (Option V))} (h : LamsOk X (T.setL ⟨(lmOf k (X.env.qual ++ "<lambda>") X.env.cells lams).A, (lmOf k (X.env.qual ++ "<lambda>") X.env.cells lams).M, S⟩) kk lams fbs) :
    LamTab X (T.setL ⟨(lmOf k (X.env.qual ++ "<lambda>") X.env.cells lams).A, (lmOf k (X.env.qual ++ "<lambda>") X.env.cells lams).M, S⟩) kk ls (lamA k fbs ls) := fun j st y hy => by
  unfold lamA at hy
  split at hy
  · cases hy
  · rename_i hj
    split at hy
    · rename_i fb hfb
      obtain ⟨p, b, sc, h1, h2⟩ := h.get hfb
      refine ⟨p, b, sc, fb, ?_, ?_, h2⟩
      · have := lmOf_at (k := k) (q := X.env.qual ++ "<lambda>") (cells := X.env.cells) h1
        rw [show k + (j - k) = j by omega] at this
        exact this
      · unfold lamA; rw [if_neg hj, hfb]
    · cases hy
/-- a def as it stands, its code object at c -/
structure FunC (K : PySem.W.Frag) (x qual : Str) (params : Arguments) (body : List Stmt) (scope : Scope) (dvs : List V) (kws : List (Str × V)) (f : Addr) (fd : FuncData) (c : Addr) : Prop where
  ex : ∃ (oc : Value) (od : Option Addr) (dV kV doc pm : Value) (an : Option Addr) (ct : Value) (osl : Array (Option Value)),
    fd = PySem.W.fnOf x qual params body scope dV kV doc pm an (.ref c) ct ∧ K.lookup f = some ⟨oc, od, .func fd, osl⟩ ∧ PySem.W.codeIn K (.ref c) qual = true ∧ DflV K dV dvs ∧ KwdV K kV kws
  kp : PySem.W.keepIn K (.ref f) = true
theorem FunC.d {K : PySem.W.Frag} {x qual : Str} {params : Arguments} {body : List Stmt} {scope : Scope} {dvs : List V} {kws : List (Str × V)} {f : Addr} {fd : FuncData} {c : Addr} (F : FunC K x qual params body scope dvs kws f fd c) : FunD K x qual params body scope dvs kws f fd := by
  obtain ⟨oc, od, dV, kV, doc, pm, an, ct, osl, h⟩ := F.ex
  exact ⟨⟨oc, od, dV, kV, doc, pm, an, .ref c, ct, osl, h⟩, F.kp⟩
section
variable {P : Program} {w : World} {K : PySem.W.Frag} {mg : Str → Option Value} {base : Heap} {T : Tx K} {x qual : Str} {params : Arguments} {body : List Stmt} {scope : Scope} {dvs : List V} {kws : List (Str × V)} {f c : Addr} {fd : FuncData} {N ps : List Str} {j : Nat} {b : Nat → Sv}
theorem csts_lm {k : Nat} {q : Str} {cells : List (Str × Addr)} {lams : List (Arguments × Expr × Scope)} {F : Hp} {l : Lm} : Csts (T.setL l) (lmOf k q cells lams) (fun i => decide (i < k)) F := fun i a hi _ φ hφ => by
  have hi : i < k := of_decide_eq_true hi
  have hφ : (if i < k then none else match lams[i - k]? with
    | some (p, b, sc) => some (lamP q cells p b sc)
    | none => none) = some φ := hφ
  rw [if_pos hi] at hφ; cases hφ
theorem csts_none {l : Lm} {F : Hp} : Csts (T.setL l) Lm.no (fun _ => true) F := fun i a _ _ φ hφ => nomatch hφ
theorem fn_elL (F : FunC K x qual params body scope dvs kws f fd c) (S : FnScope N ps scope) (lams : List (Arguments × Expr × Scope))
    (hb : ∀ (k : Nat) (A : Around) (outer : List Env) (s : Shared) (H : Hp) (E : XK), Room j (A.deeper (envOfC qual scope s.heap.objs.size f (.ref c))) → Takes (cxOf (L2.CX P w) P w K mg base N qual scope f (.ref c) A outer s H E) (fun c d _ H' => E c d H') →
      PSs (cxOf (L2.CX P w) P w K mg base N qual scope f (.ref c) A outer s H E) body
        (tSv (K := K) (T.setL (lmOf k ((envOfC qual scope s.heap.objs.size f (.ref c)).qual ++ "<lambda>") (envOfC qual scope s.heap.objs.size f (.ref c)).cells lams)) (fun c d _ H' => E c d H') (b k))) :
    FnOk P w K mg base (L2.CX P w) (j + 1) f fd ps (spM (T.setL Lm.no) ps.length (runLM N.length b)) := by
  obtain ⟨oc, od, dV, kV, doc, pm, an, ct, osl, rfl, lk, hcode, _, _⟩ := F.ex
  refine fn_of lk hcode S (fun vs H Q E h => h.1) fun A outer s H vs Q E hr h => ?_
  obtain ⟨hl, lvs, st', Fz, B, wd, r, g⟩ := h
  refine ⟨_, hb (freeN lvs st') A outer s H E hr (takes_of rfl rfl rfl rfl), ?_⟩
  generalize hlm : lmOf (freeN lvs st') ((envOfC qual scope s.heap.objs.size f (.ref c)).qual ++ "<lambda>") (envOfC qual scope s.heap.objs.size f (.ref c)).cells lams = lm
  have cs : ∀ F, Csts (T.setL Lm.no) lm (fun i => decide (i < freeN lvs st')) F := fun F => by rw [← hlm]; exact csts_lm
  have nS : lm.S = none := by rw [← hlm]; rfl
  have r2 : Reps (T.setL lm) Fz B lvs vs := r.cast (T := T.setL Lm.no) (cs Fz) (LV.allL_top lvs (Nat.le_max_left _ _))
  have w2 : Wd (T.setL lm) H Fz B st' := wd.cast (T := T.setL Lm.no) (cs Fz) (fun r o e => Sto.all_top (Nat.le_max_right _ _) e) fun ls σ e => by rw [nS] at e; cases e
  have back : ∀ {H' F' : Hp} {B' : Ad} {st2 : Sto}, Wd (T.setL lm) H' F' B' st2 → Wd (T.setL Lm.no) H' F' B' st2 := fun w' => w'.cast (T := T.setL lm) (l := Lm.no) csts_none (fun r o _ => MO.all_tt (fun _ => rfl) o) fun ls σ e => nomatch e
  refine ⟨_, st', Fz, B, w2, sr_start (N := N) r2, ?_⟩
  unfold runLM runB at g
  cases e : b (freeN lvs st') (lvs.map some ++ List.replicate (N.length - lvs.length) .none) st' with
  | none => rw [e] at g; exact g.elim
  | some y =>
    rw [e] at g
    match y, g with
    | (.nx ls', st'), g => exact fun H F B σ h1 h2 w' sr' => g H F B h1 h2 (back w') _ .non
    | (.bk ls', st'), g => exact g.elim
    | (.ct ls', st'), g => exact g.elim
    | (.rt v, st'), g => exact fun H F B x h1 h2 w' r' => g H F B h1 h2 (back w') x (r'.cast (T := T.setL lm) (l := Lm.no) csts_none (LV.all_tt (fun _ => rfl) v))
    | (.ex c fs ls', st'), g => exact fun H F B σ d h1 h2 w' sr' e => g H F B d h1 h2 (back w') (ex_cast (T := T.setL lm) csts_none e)
end
end EL

set_option Elab.async false
set_option linter.all false
set_option maxRecDepth 100000
set_option maxHeartbeats 1000000
/-! EL13: operators of own classes. -/
namespace EL
open PySem PySem.Spec PySem.Calls PyProof.Rows L2
section
variable {prog : Program} {w : World} {A : Around} {E : Value → Shared → Prop} {s : Shared} {K : PySem.W.Frag} {x C f r : Addr} {ox : Obj} {od : Option Obj} {op : Operator} {b : Value} {T : String}
/-- x op b, both of the class at C -/
theorem own_same {Q : Value → Shared → Prop} (X : K.In s.heap) (I : PySem.W.InstAt s.heap x ox C od) (hb : PySem.W.Looks (model prog w) s.heap (typeOf b) (.ref C)) (sf : PySem.W.selfFirst K C = true)
    (hs : PySem.W.findIn K (.ref C) (PySem.dunder op.info.2) = some (some (.ref f))) (hf : PySem.W.isFn K (.ref f) = true)
    (h : wpAny (model prog w) A (call (.ref f) [.ref x, b]) (PySem.W.CmpBack Q) E s) : wpAny (model prog w) A (binaryOp op (.ref x) b) Q E s := by
  obtain ⟨cd, rest, hcd, hm⟩ := PySem.W.ksp_first sf
  rcases hi : op.info with ⟨sym, nm⟩
  rw [hi] at hs
  dsimp only at hs
  have one := PySem.W.ksp_try X I hs hf h
  obtain ⟨hh, g, d, tt, os⟩ := s
  have L1 : PySem.W.Looks (model prog w) hh (typeOf (.ref x)) (.ref C) := I.type
  have L3 : PySem.W.Looks (model prog w) hh (fillsNumberSlot (.ref C) nm) true := PySem.W.fills_K X hcd hm hs
  have hne : (Value.ref C == Value.ref C) = true := beq_self_eq_true _
  simp only [binaryOp, hi]
  refine wpAny_holding (wpAny_bind ?_)
  unfold binaryOp1
  refine wpAny_bind (L1.at (wpAny_bind (hb.at (wpAny_bind (L3.at ?_)))))
  simp only [hne, if_true]
  ksp_lk
  refine wpAny_mono one (fun r s' hr' => ?_) fun _ _ e => e
  obtain ⟨v, rfl, hq⟩ := hr'
  ksp_lk
  exact hq
/-- x op b: b of a built-in type -/
theorem own_left {fo ro rc : Option Value} {Q : Value → Shared → Prop} (X : K.In s.heap) (I : PySem.W.InstAt s.heap x ox C od) (hb : PySem.W.Looks (model prog w) s.heap (typeOf b) (.type T)) (sf : PySem.W.selfFirst K C = true)
    (hs : PySem.W.findIn K (.ref C) (PySem.dunder op.info.2) = some (some (.ref f))) (hf : PySem.W.isFn K (.ref f) = true) (hr : PySem.W.findIn K (.ref C) (dunderR op.info.2) = some rc) (hp : rc = none ∨ ∃ g : Addr, rc = some (.ref g))
    (h1 : PySem.W.findIn K (.type T) (PySem.dunder op.info.2) = some fo) (h2 : PySem.W.findIn K (.type T) (dunderR op.info.2) = some ro) (hsub : PySem.W.subIn K (.type T) (.ref C) = some false)
    (h : wpAny (model prog w) A (call (.ref f) [.ref x, b]) (PySem.W.CmpBack Q) E s) : wpAny (model prog w) A (binaryOp op (.ref x) b) Q E s := by
  obtain ⟨cd, rest, hcd, hm⟩ := PySem.W.ksp_first sf
  rcases hi : op.info with ⟨sym, nm⟩
  rw [hi] at hs hr h1 h2
  dsimp only at hs hr h1 h2
  have one := PySem.W.ksp_try X I hs hf h
  obtain ⟨hh, g, d, tt, os⟩ := s
  have L1 : PySem.W.Looks (model prog w) hh (typeOf (.ref x)) (.ref C) := I.type
  have L3 : PySem.W.Looks (model prog w) hh (fillsNumberSlot (.ref C) nm) true := PySem.W.fills_K X hcd hm hs
  have L4 : PySem.W.Looks (model prog w) hh (fillsNumberSlot (.type T) nm) ((fo.isSome && !isSeqSlot fo) || (ro.isSome && !isSeqSlot ro)) := PySem.W.ksp_fillsT X h1 h2
  have L5 : PySem.W.Looks (model prog w) hh (isSubtype (.type T) (.ref C)) false := PySem.W.looks_subIn X hsub
  have L6 : PySem.W.Looks (model prog w) hh (numberSlotInPython (.ref C) nm) true := PySem.W.ksp_inPy X hs hr hp
  have L7 : PySem.W.Looks (model prog w) hh (numberSlotInPython (.type T) nm) false := PySem.W.Looks.of_pure rfl
  have L8 : PySem.W.Looks (model prog w) hh (typeLookup (.type T) (dunderR nm)) ro := PySem.W.looks_findIn X h2
  generalize ((fo.isSome && !isSeqSlot fo) || (ro.isSome && !isSeqSlot ro)) = right at L4
  have hne : (Value.ref C == Value.type T) = false := Bool.eq_false_iff.mpr fun q => by cases beq_iff_eq.mp q
  simp only [binaryOp, hi]
  refine wpAny_holding (wpAny_bind ?_)
  unfold binaryOp1
  refine wpAny_bind (L1.at (wpAny_bind (hb.at (wpAny_bind (L3.at ?_)))))
  simp only [hne, Bool.false_eq_true, if_false]
  cases right <;>
  · ksp_lk
    refine wpAny_mono one (fun r s' hr' => ?_) fun _ _ e => e
    obtain ⟨v, rfl, hq⟩ := hr'
    ksp_lk
    exact hq
/-- b op x: b of a built-in type that gives way -/
theorem own_right {fo ro : Option Value} {Q : Value → Shared → Prop} (X : K.In s.heap) (I : PySem.W.InstAt s.heap x ox C od) (hb : PySem.W.Looks (model prog w) s.heap (typeOf b) (.type T)) (sf : PySem.W.selfFirst K C = true)
    (hs : PySem.W.findIn K (.ref C) (PySem.dunder op.info.2) = some (some (.ref f))) (hr : PySem.W.findIn K (.ref C) (dunderR op.info.2) = some (some (.ref r))) (hf : PySem.W.isFn K (.ref r) = true)
    (h1 : PySem.W.findIn K (.type T) (PySem.dunder op.info.2) = some fo) (h2 : PySem.W.findIn K (.type T) (dunderR op.info.2) = some ro) (hsub : PySem.W.subIn K (.ref C) (.type T) = some false)
    (decl : ((fo.isSome && !isSeqSlot fo) || (ro.isSome && !isSeqSlot ro)) = true → ∀ {Q : Option Value → Shared → Prop}, Q none s → wpAny (model prog w) A (tryMethod b (PySem.dunder op.info.2) (.ref x)) Q E s)
    (h : wpAny (model prog w) A (call (.ref r) [.ref x, b]) (PySem.W.CmpBack Q) E s) : wpAny (model prog w) A (binaryOp op b (.ref x)) Q E s := by
  obtain ⟨cd, rest, hcd, hm⟩ := PySem.W.ksp_first sf
  rcases hi : op.info with ⟨sym, nm⟩
  rw [hi] at hs hr h1 h2 decl
  dsimp only at hs hr h1 h2 decl
  have one := PySem.W.ksp_try X I hr hf h
  obtain ⟨hh, g, d, tt, os⟩ := s
  have L1 : PySem.W.Looks (model prog w) hh (typeOf (.ref x)) (.ref C) := I.type
  have L3 : PySem.W.Looks (model prog w) hh (fillsNumberSlot (.ref C) nm) true := PySem.W.fills_K X hcd hm hs
  have L4 : PySem.W.Looks (model prog w) hh (fillsNumberSlot (.type T) nm) ((fo.isSome && !isSeqSlot fo) || (ro.isSome && !isSeqSlot ro)) := PySem.W.ksp_fillsT X h1 h2
  have L5 : PySem.W.Looks (model prog w) hh (isSubtype (.ref C) (.type T)) false := PySem.W.looks_subIn X hsub
  have L7 : PySem.W.Looks (model prog w) hh (numberSlotInPython (.type T) nm) false := PySem.W.Looks.of_pure rfl
  generalize ((fo.isSome && !isSeqSlot fo) || (ro.isSome && !isSeqSlot ro)) = left at L4 decl
  have hne : (Value.type T == Value.ref C) = false := Bool.eq_false_iff.mpr fun q => by cases beq_iff_eq.mp q
  simp only [binaryOp, hi]
  refine wpAny_holding (wpAny_bind ?_)
  unfold binaryOp1
  refine wpAny_bind (hb.at (wpAny_bind (L1.at (wpAny_bind (L4.at ?_)))))
  simp only [hne, Bool.false_eq_true, if_false]
  cases left with
  | false =>
    ksp_lk
    refine wpAny_mono one (fun r s' hr' => ?_) fun _ _ e => e
    obtain ⟨v, rfl, hq⟩ := hr'
    ksp_lk
    exact hq
  | true =>
    ksp_lk
    refine decl rfl ?_
    ksp_lk
    refine wpAny_mono one (fun r s' hr' => ?_) fun _ _ e => e
    obtain ⟨v, rfl, hq⟩ := hr'
    ksp_lk
    exact hq
end

section
variable {prog : Program} {w : World} {A : Around} {E : Value → Shared → Prop} {s : Shared} {x : Addr} {ox : Obj}
theorem bin_no {nm : String} {g : Int → Int → Sem Fin} {a : Value} {Q : Fin → Shared → Prop} (ha : (∃ i t, a = .int i t) ∨ ∃ z, a = .bool z) (hx : s.heap.get? x = some ox) (hd : ∀ v, ox.data ≠ .prim v) (h : Q (.done (.ret .notImplemented)) s) :
    wpAny (model prog w) A (Builtin.Int.intBinary nm g false ⟨[a, .ref x], []⟩) Q E s := by
  unfold Builtin.Int.intBinary
  have e1 : slotArgs nm 1 ⟨[a, .ref x], []⟩ = pure (a, [.ref x]) := rfl
  rw [e1]
  refine wpAny_bind (wpAny_pure ?_)
  have e2 : ∃ z, Builtin.Int.intOfSelf a = pure z := by
    rcases ha with ⟨i, t, rfl⟩ | ⟨z, rfl⟩ <;> exact ⟨_, rfl⟩
  obtain ⟨z, e2⟩ := e2
  simp only [e2, pure_bind]
  have e3 : asInt? (([Value.ref x] : List Value).headD .none) = (do match (← load x).data with | .prim (.int i _) => pure (some i) | _ => pure none) := rfl
  rw [e3]
  refine wpAny_bind (wpAny_bind (wpAny_load hx ?_))
  split
  · rename_i i k e
    exact absurd e (hd _)
  · refine wpAny_pure (wpAny_bind (wpAny_rule ?_))
    exact wpAny_pure h
/-- an operator by which ints and bools give way -/
def GivesWay (op : Operator) : Prop := op = .Add ∨ op = .Sub ∨ op = .Mult
theorem call_no {T id nm m : String} {g : Int → Int → Sem Fin} {B : Builtin} {a : Value} {Q : Option Value → Shared → Prop} (slot : Slot T (PySem.dunder nm) id) (ha : s.TypeIs a T) (ha' : (∃ i t, a = .int i t) ∨ ∃ z, a = .bool z) (entry : entryFor table id = some B) (args : argsOk id ⟨[a, .ref x], []⟩)
    (hB : B = Builtin.Int.intBinary m g false) (hx : s.heap.get? x = some ox) (hd : ∀ v, ox.data ≠ .prim v) (h : Q none s) : wpAny (model prog w) A (tryMethod a (PySem.dunder nm) (.ref x)) Q E s := by
  subst hB
  refine wpAny_tryMethod_declines ha slot (GQ.call_here slot ha entry args (bin_no ha' hx hd ?_))
  exact ⟨rfl, h⟩
theorem no_int_add {i : Int} {t : Tok} {Q : Option Value → Shared → Prop} (hx : s.heap.get? x = some ox) (hd : ∀ v, ox.data ≠ .prim v) (h : Q none s) : wpAny (model prog w) A (tryMethod (.int i t) (PySem.dunder "add") (.ref x)) Q E s :=
  call_no (nm := "add") (id := "int.__add__") (T := "int") (B := Builtin.«int.__add__») (m := "__add__") (g := fun x y => retInt (x + y)) F.slot_int_add (PySem.typeIs_int s i t) (.inl ⟨i, t, rfl⟩) F.entry_int_add (F.args_int_add_2 _ _) (by unfold Builtin.«int.__add__»; rfl) hx hd h
theorem no_bool_add {z : Bool} {Q : Option Value → Shared → Prop} (hx : s.heap.get? x = some ox) (hd : ∀ v, ox.data ≠ .prim v) (h : Q none s) : wpAny (model prog w) A (tryMethod (.bool z) (PySem.dunder "add") (.ref x)) Q E s :=
  call_no (nm := "add") (id := "int.__add__") (T := "bool") (B := Builtin.«int.__add__») (m := "__add__") (g := fun x y => retInt (x + y)) F.slot_bool_add (PySem.typeIs_bool s z) (.inr ⟨z, rfl⟩) F.entry_int_add (F.args_int_add_2 _ _) (by unfold Builtin.«int.__add__»; rfl) hx hd h
theorem no_int_sub {i : Int} {t : Tok} {Q : Option Value → Shared → Prop} (hx : s.heap.get? x = some ox) (hd : ∀ v, ox.data ≠ .prim v) (h : Q none s) : wpAny (model prog w) A (tryMethod (.int i t) (PySem.dunder "sub") (.ref x)) Q E s :=
  call_no (nm := "sub") (id := "int.__sub__") (T := "int") (B := Builtin.«int.__sub__») (m := "__sub__") (g := fun x y => retInt (x - y)) F.slot_int_sub (PySem.typeIs_int s i t) (.inl ⟨i, t, rfl⟩) F.entry_int_sub (F.args_int_sub_2 _ _) (by unfold Builtin.«int.__sub__»; rfl) hx hd h
theorem no_bool_sub {z : Bool} {Q : Option Value → Shared → Prop} (hx : s.heap.get? x = some ox) (hd : ∀ v, ox.data ≠ .prim v) (h : Q none s) : wpAny (model prog w) A (tryMethod (.bool z) (PySem.dunder "sub") (.ref x)) Q E s :=
  call_no (nm := "sub") (id := "int.__sub__") (T := "bool") (B := Builtin.«int.__sub__») (m := "__sub__") (g := fun x y => retInt (x - y)) F.slot_bool_sub (PySem.typeIs_bool s z) (.inr ⟨z, rfl⟩) F.entry_int_sub (F.args_int_sub_2 _ _) (by unfold Builtin.«int.__sub__»; rfl) hx hd h
theorem no_int_mul {i : Int} {t : Tok} {Q : Option Value → Shared → Prop} (hx : s.heap.get? x = some ox) (hd : ∀ v, ox.data ≠ .prim v) (h : Q none s) : wpAny (model prog w) A (tryMethod (.int i t) (PySem.dunder "mul") (.ref x)) Q E s :=
  call_no (nm := "mul") (id := "int.__mul__") (T := "int") (B := Builtin.«int.__mul__») (m := "__mul__") (g := fun x y => Builtin.intProduct "__mul__" x y) F.slot_int_mul (PySem.typeIs_int s i t) (.inl ⟨i, t, rfl⟩) F.entry_int_mul (F.args_int_mul_2 _ _) (by unfold Builtin.«int.__mul__»; rfl) hx hd h
theorem no_bool_mul {z : Bool} {Q : Option Value → Shared → Prop} (hx : s.heap.get? x = some ox) (hd : ∀ v, ox.data ≠ .prim v) (h : Q none s) : wpAny (model prog w) A (tryMethod (.bool z) (PySem.dunder "mul") (.ref x)) Q E s :=
  call_no (nm := "mul") (id := "int.__mul__") (T := "bool") (B := Builtin.«int.__mul__») (m := "__mul__") (g := fun x y => Builtin.intProduct "__mul__" x y) F.slot_bool_mul (PySem.typeIs_bool s z) (.inr ⟨z, rfl⟩) F.entry_int_mul (F.args_int_mul_2 _ _) (by unfold Builtin.«int.__mul__»; rfl) hx hd h
theorem int_no {op : Operator} {a : Value} {T : String} {Q : Option Value → Shared → Prop} (hop : GivesWay op) (ha : ((∃ i t, a = .int i t) ∧ T = "int") ∨ ((∃ z, a = .bool z) ∧ T = "bool")) (hx : s.heap.get? x = some ox) (hd : ∀ v, ox.data ≠ .prim v) (h : Q none s) :
    wpAny (model prog w) A (tryMethod a (PySem.dunder op.info.2) (.ref x)) Q E s := by
  have e1 : Operator.Add.info.2 = "add" := rfl
  have e2 : Operator.Sub.info.2 = "sub" := rfl
  have e3 : Operator.Mult.info.2 = "mul" := rfl
  rcases hop with rfl | rfl | rfl
  · rw [e1]
    rcases ha with ⟨⟨i, t, rfl⟩, _⟩ | ⟨⟨z, rfl⟩, _⟩
    · exact no_int_add hx hd h
    · exact no_bool_add hx hd h
  · rw [e2]
    rcases ha with ⟨⟨i, t, rfl⟩, _⟩ | ⟨⟨z, rfl⟩, _⟩
    · exact no_int_sub hx hd h
    · exact no_bool_sub hx hd h
  · rw [e3]
    rcases ha with ⟨⟨i, t, rfl⟩, _⟩ | ⟨⟨z, rfl⟩, _⟩
    · exact no_int_mul hx hd h
    · exact no_bool_mul hx hd h
end
end EL

set_option Elab.async false
set_option linter.all false
set_option maxRecDepth 100000
set_option maxHeartbeats 1000000
/-! EL14: operators of own classes, by values. -/
namespace EL
open PySem PySem.Spec PySem.Calls PyProof.Rows L2
section
variable {X : Cx} {T : Tx X.K} {W : WX} {op : Operator} {pins : List (Addr × Obj)} {σ : L2.St} {H Fz : Hp} {A : Ad} {st : Sto} {s : Shared}
theorem ep_back {Q : VK} {v : Value} {s' : Shared} (h : EP X pins σ Q v s') : PySem.W.CmpBack (EP X pins σ Q) v s' := by
  obtain ⟨x, H', I, r, q⟩ := id h
  cases v <;> first | exact h | (cases x <;> first | (cases r; done) | (obtain ⟨_, r⟩ := r; cases r))
/-- a type of a built-in name beside the class at C -/
structure TyOp (K : PySem.W.Frag) (op : Operator) (C : Addr) (n : String) : Prop where
  ex : ∃ fo ro, PySem.W.findIn K (.type n) (PySem.dunder op.info.2) = some fo ∧ PySem.W.findIn K (.type n) (dunderR op.info.2) = some ro ∧
    ((((fo.isSome && !isSeqSlot fo) || (ro.isSome && !isSeqSlot ro)) = false) ∨ (GivesWay op ∧ (n = "int" ∨ n = "bool")))
  sub : PySem.W.subIn K (.type n) (.ref C) = some false
  sup : PySem.W.subIn K (.ref C) (.type n) = some false
/-- x op y by the method of x's class -/
structure OwnOp (X : Cx) (T : Tx X.K) (W : WX) (op : Operator) (c : Nat) (F : Mv2) : Prop where
  sf : PySem.W.selfFirst X.K (T.cls c) = true
  ex : ∃ f, PySem.W.findIn X.K (.ref (T.cls c)) (PySem.dunder op.info.2) = some (some (.ref f)) ∧ PySem.W.isFn X.K (.ref f) = true ∧ CalK T W (.ref f) 2 [] F
  re : ∃ rc, PySem.W.findIn X.K (.ref (T.cls c)) (dunderR op.info.2) = some rc ∧ (rc = none ∨ ∃ g : Addr, rc = some (.ref g))
/-- y op x by the reflected method of x's class -/
structure RevOp (X : Cx) (T : Tx X.K) (W : WX) (op : Operator) (c : Nat) (F : Mv2) : Prop where
  sf : PySem.W.selfFirst X.K (T.cls c) = true
  fw : ∃ f : Addr, PySem.W.findIn X.K (.ref (T.cls c)) (PySem.dunder op.info.2) = some (some (.ref f))
  ex : ∃ r, PySem.W.findIn X.K (.ref (T.cls c)) (dunderR op.info.2) = some (some (.ref r)) ∧ PySem.W.isFn X.K (.ref r) = true ∧ CalK T W (.ref r) 2 [] F
def oOwnL (okT : Nat → Ty → Bool) (fw : Nat → Option Mv2) (v u : LV) (st : Sto) : Rz LV := match clsOf v st with
  | some c => match tyOf u st with
    | some t => match okT c t with
      | true => match fw c with
        | some F => F [v, u] [] st
        | .none => .none
      | false => .none
    | .none => .none
  | .none => .none
def oOwnR (okT : Nat → String → Bool) (rv : Nat → Option Mv2) (v u : LV) (st : Sto) : Rz LV := match clsOf u st with
  | some c => match tyOf v st with
    | some (.b n) => match okT c n with
      | true => match rv c with
        | some F => F [u, v] [] st
        | .none => .none
      | false => .none
    | _ => .none
  | .none => .none
theorem ty_looks {v : LV} {x : V} {u : Value} {t : Ty} (hk : ∀ c, t = .c c → InsK X.K (T.cls c)) (hx : ∀ c, t = .x c → ExcC X.K (T.cls c)) (I : Inv X pins σ H s) (w : Wd T H Fz A st) (r : Rep T Fz A v x) (rx : RelV x u) (h : tyOf v st = some t) {M : Model} : PySem.W.Looks M s.heap (typeOf u) (tyV' T t) := by
  obtain ⟨P, Z, p, _⟩ := kit_rep hk hx I w r rx h
  exact Z.ty M s.heap I.kIn p
theorem ov_ownL {okT : Nat → Ty → Bool} {fw : Nat → Option Mv2} (h : ∀ c F, fw c = some F → OwnOp X T W op c F) (hc : ∀ c c', okT c (.c c') = true → c' = c ∧ InsK X.K (T.cls c)) (hx : ∀ c c', okT c (.x c') = false) (hb : ∀ c n, okT c (.b n) = true → TyOp X.K op (T.cls c) n) :
    OpV T W (binaryOp op) (oOwnL okT fw) := fun pins s σ H Fz A st v1 v2 x y u1 u2 Q I w r1 r2 p1 p2 g => by
  unfold oOwnL at g
  split at g
  · rename_i c hcl
    split at g
    · rename_i t ht
      split at g
      · rename_i hok
        split at g
        · rename_i F hF
          obtain ⟨sf, ⟨f, hs, hf, cal⟩, rc, hr, hp⟩ := h c F hF
          obtain ⟨a, dx, fs, vs, rfl, ha, _⟩ := clsOf_rep w p1 hcl
          obtain rfl : u1 = .ref a := r1
          obtain ⟨mA, J, _⟩ := ins_get I.hok ha
          obtain ⟨od, J, _⟩ := J.look
          obtain ⟨m, hF⟩ := I.fr
          have run := wpAny_mono (cal pins s σ H Fz A st [v1, v2] [] [.ref a, y] [] [.ref a, u2] [] Q I w (.cons rfl (.cons r2 .nil)) (.cons p1 (.cons p2 .nil)) .nil .nil rfl rfl g) (fun v s' hq => ep_back hq) fun _ _ e => e
          have lk := fun M => ty_looks (M := M) (fun c' e => by subst e; obtain ⟨e1, e2⟩ := hc c c' hok; rw [e1]; exact e2) (fun c' e => by subst e; rw [hx] at hok; cases hok) I w p2 r2 ht
          cases t with
          | c c' =>
            obtain ⟨e1, _⟩ := hc c c' hok
            subst e1
            exact own_same I.kIn J (lk _) sf hs hf run
          | x c' => rw [hx] at hok; cases hok
          | b n =>
            obtain ⟨⟨fo, ro, h1, h2, _⟩, sub, _⟩ := hb c n hok
            obtain ⟨tb, e⟩ : ∃ tb, tb = typeOf u2 := ⟨_, rfl⟩
            exact own_left I.kIn J (lk _) sf hs hf hr hp h1 h2 sub run
        · exact g.elim
      · exact g.elim
    · exact g.elim
  · exact g.elim
theorem ov_ownR {okT : Nat → String → Bool} {rv : Nat → Option Mv2} (h : ∀ c F, rv c = some F → RevOp X T W op c F) (hb : ∀ c n, okT c n = true → TyOp X.K op (T.cls c) n) :
    OpV T W (binaryOp op) (oOwnR okT rv) := fun pins s σ H Fz A st v1 v2 x y u1 u2 Q I w r1 r2 p1 p2 g => by
  unfold oOwnR at g
  split at g
  · rename_i c hcl
    split at g
    · rename_i n ht
      split at g
      · rename_i hok
        split at g
        · rename_i F hF
          obtain ⟨sf, ⟨f, hs⟩, r, hr, hf, cal⟩ := h c F hF
          obtain ⟨a, dx, fs, vs, rfl, ha, _⟩ := clsOf_rep w p2 hcl
          obtain rfl : u2 = .ref a := r2
          obtain ⟨mA, J, _⟩ := ins_get I.hok ha
          obtain ⟨od, J, _⟩ := J.look
          have run := wpAny_mono (cal pins s σ H Fz A st [v2, v1] [] [.ref a, x] [] [.ref a, u1] [] Q I w (.cons rfl (.cons r1 .nil)) (.cons p2 (.cons p1 .nil)) .nil .nil rfl rfl g) (fun v s' hq => ep_back hq) fun _ _ e => e
          have lk := fun M => ty_looks (M := M) (t := .b n) (fun c' e => nomatch e) (fun c' e => nomatch e) I w p1 r1 ht
          obtain ⟨⟨fo, ro, h1, h2, way⟩, _, sup⟩ := hb c n hok
          refine own_right I.kIn J (lk _) sf hs hr hf h1 h2 sup (fun hl {Q'} hq => ?_) run
          rcases way with z | ⟨gw, z⟩
          · rw [z] at hl; cases hl
          · refine int_no (T := n) gw ?_ J.at_ (fun v e => nomatch e) hq
            have hv : (∃ i, v1 = .int i ∧ n = "int") ∨ ∃ b, v1 = .bl b ∧ n = "bool" := by
              cases v1 with
              | int i => exact .inl ⟨i, rfl, by cases ht; rfl⟩
              | bl b => exact .inr ⟨b, rfl, by cases ht; rfl⟩
              | ob r =>
                simp only [tyOf] at ht
                split at ht <;> first | (cases ht; rcases z with z | z <;> exact absurd z (by decide)) | cases ht
              | _ => first | (cases ht; rcases z with z | z <;> exact absurd z (by decide)) | cases ht
            rcases hv with ⟨i, rfl, e⟩ | ⟨b, rfl, e⟩
            · cases p1
              obtain ⟨t, e'⟩ := (show ∃ t, u1 = .int i t from r1)
              exact .inl ⟨⟨i, t, e'⟩, e⟩
            · cases p1
              exact .inr ⟨⟨b, r1⟩, e⟩
        · exact g.elim
      · exact g.elim
    · exact g.elim
  · exact g.elim
/-- - x by the class's own method -/
structure OwnUn (X : Cx) (T : Tx X.K) (W : WX) (m : Str) (c : Nat) (F : Mv2) : Prop where
  ex : ∃ f, PySem.W.findIn X.K (.ref (T.cls c)) m = some (some (.ref f)) ∧ PySem.W.isFn X.K (.ref f) = true ∧ CalK T W (.ref f) 1 [] F
def oOwn1 (fw : Nat → Option Mv2) (v : LV) (st : Sto) : Rz LV := match clsOf v st with
  | some c => match fw c with
    | some F => F [v] [] st
    | .none => .none
  | .none => .none
theorem ov_ownNeg {fw : Nat → Option Mv2} (h : ∀ c F, fw c = some F → OwnUn X T W "__neg__" c F) : UnV T W (unaryOp .USub) (oOwn1 fw) := fun pins s σ H Fz A st v1 x u1 Q I w r1 p1 g => by
  unfold oOwn1 at g
  split at g
  · rename_i c hcl
    split at g
    · rename_i F hF
      obtain ⟨f, hs, hf, cal⟩ := h c F hF
      obtain ⟨a, dx, fs, vs, rfl, ha, _⟩ := clsOf_rep w p1 hcl
      obtain rfl : u1 = .ref a := r1
      obtain ⟨mA, J, _⟩ := ins_get I.hok ha
      obtain ⟨od, J, _⟩ := J.look
      obtain ⟨m, hFr⟩ := I.fr
      exact PySem.W.ksp_neg hFr I.ok.mod.kin J hs hf (cal pins s σ H Fz A st [v1] [] [.ref a] [] [.ref a] [] Q I w (.cons rfl .nil) (.cons p1 .nil) .nil .nil rfl rfl g)
    · exact g.elim
  · exact g.elim
end
end EL

set_option Elab.async false
set_option linter.all false
set_option maxRecDepth 100000
set_option maxHeartbeats 1000000
/-! EL15: == and != of own classes. -/
namespace EL
open PySem PySem.Spec PySem.Calls PyProof.Rows L2
/-- x == y by the method of x's class -/
structure OwnEqK (X : Cx) (T : Tx X.K) (W : WX) (c : Nat) (F : Mv2) : Prop where
  ex : ∃ f, PySem.W.findIn X.K (.ref (T.cls c)) "__eq__" = some (some (.ref f)) ∧ PySem.W.isFn X.K (.ref f) = true ∧ CalK T W (.ref f) 2 [] F
/-- != is made from it -/
structure OwnNeK (X : Cx) (T : Tx X.K) (W : WX) (c : Nat) (M : Mv) : Prop where
  ne : PySem.W.findIn X.K (.ref (T.cls c)) "__ne__" = some (some (.builtin "object.__ne__"))
  ob : PySem.W.mroIn X.K (T.cls c) (.type "object") = some true
  ex : ∃ f k fd ps, PySem.W.findIn X.K (.ref (T.cls c)) "__eq__" = some (some (.ref f)) ∧ PySem.W.isFn X.K (.ref f) = true ∧ FnOk X.prog X.w X.K X.mg X.base (L2.CX X.prog X.w) k f fd ps (spM T ps.length M) ∧ Room (k + 1) X.A ∧ L2.Binds X.K fd ps [] ∧ ps.length = 2
def oOwnNe (okT : Nat → Ty → Bool) (fw : Nat → Option Mv) (v u : LV) (st : Sto) : Rz LV := match clsOf v st with
  | some c => match tyOf u st with
    | some t => match okT c t with
      | true => match fw c with
        | some M => bnd (M [v, u] st) fun z st => match z with
          | .bl z => some (.ok (.bl (!z)), st)
          | _ => .none
        | .none => .none
      | false => .none
    | .none => .none
  | .none => .none
section
variable {X : Cx} {T : Tx X.K} {W : WX} {pins : List (Addr × Obj)} {σ : L2.St} {H Fz : Hp} {A : Ad} {st : Sto} {s : Shared}
theorem notF {c : Nat} {t : Ty} (hc : ∀ c', t = .c c' → c' = c) (hx : ∀ c', t ≠ .x c') (hb : ∀ n, t = .b n → PySem.W.subIn X.K (.type n) (.ref (T.cls c)) = some false) : PySem.W.notFirst X.K (T.cls c) (tyV' T t) = true := by
  unfold PySem.W.notFirst
  cases t with
  | b n => rw [Bool.or_eq_true]; right; rw [show tyV' T (.b n) = .type n from rfl, hb n rfl]; rfl
  | c c' => rw [hc c' rfl]; rw [Bool.or_eq_true]; left; exact beq_self_eq_true _
  | x c' => exact absurd rfl (hx c')
theorem ov_ownEq (hu : X.A.units + 64 < cLine) {okT : Nat → Ty → Bool} {fw : Nat → Option Mv2} (h : ∀ c F, fw c = some F → OwnEqK X T W c F) (hc : ∀ c c', okT c (.c c') = true → c' = c ∧ InsK X.K (T.cls c)) (hx : ∀ c c', okT c (.x c') = false) (hb : ∀ c n, okT c (.b n) = true → PySem.W.subIn X.K (.type n) (.ref (T.cls c)) = some false) :
    OpV T W (compareOp .Eq) (oOwnL okT fw) := fun pins s σ H Fz A st v1 v2 x y u1 u2 Q I w r1 r2 p1 p2 g => by
  unfold oOwnL at g
  split at g
  · rename_i c hcl
    split at g
    · rename_i t ht
      split at g
      · rename_i hok
        split at g
        · rename_i F hF
          obtain ⟨f, hs, hf, cal⟩ := h c F hF
          obtain ⟨a, dx, fs, vs, rfl, ha, _⟩ := clsOf_rep w p1 hcl
          obtain rfl : u1 = .ref a := r1
          obtain ⟨mA, J, _⟩ := ins_get I.hok ha
          obtain ⟨od, J, _⟩ := J.look
          obtain ⟨m, hFr⟩ := I.fr
          have run := wpAny_mono (cal pins s σ H Fz A st [v1, v2] [] [.ref a, y] [] [.ref a, u2] [] Q I w (.cons rfl (.cons r2 .nil)) (.cons p1 (.cons p2 .nil)) .nil .nil rfl rfl g) (fun v s' hq => ep_back hq) fun _ _ e => e
          have lk := fun M => ty_looks (M := M) (fun c' e => by subst e; obtain ⟨e1, e2⟩ := hc c c' hok; rw [e1]; exact e2) (fun c' e => by subst e; rw [hx] at hok; cases hok) I w p2 r2 ht
          show wpAny (model X.prog X.w) X.A (richCompare .Eq (.ref a) u2) (EP X pins σ Q) X.xe s
          exact PySem.W.cmp_K (op := .Eq) (by omega) hFr I.ok.mod.kin J (lk _) (notF (fun c' e => by subst e; exact (hc c c' hok).1) (fun c' e => by subst e; rw [hx] at hok; cases hok) (fun n e => by subst e; exact hb c n hok)) hs hf run
        · exact g.elim
      · exact g.elim
    · exact g.elim
  · exact g.elim
theorem ne_call {a : Addr} {b : Value} {C f : Addr} {ox : Obj} {od : Option Obj} {A : Around} {E : Value → Shared → Prop} {K : PySem.W.Frag} {prog : Program} {w : World} {Q : Value → Shared → Prop} {s : Shared} (hu : A.units + 2 < cLine) (KX : K.In s.heap) (J : PySem.W.InstAt s.heap a ox C od) (ne : PySem.W.findIn K (.ref C) "__ne__" = some (some (.builtin "object.__ne__")))
    (ob : PySem.W.mroIn K C (.type "object") = some true) (hs : PySem.W.findIn K (.ref C) "__eq__" = some (some (.ref f))) (hf : PySem.W.isFn K (.ref f) = true)
    (h : wpAny (model prog w) A.in1 (call (.ref f) [.ref a, b]) (fun v s' => ∃ z, v = .bool z ∧ Q (.bool (!z)) s') E s) : wpAny (model prog w) A (tryCompare (.ref a) "__ne__" b) (fun r s' => ∃ v, r = some v ∧ Q v s') E s := by
  have sub : PySem.W.Looks (model prog w) s.heap (isInstance (.ref a) (.type "object")) true := J.type.andThen (PySem.W.looks_mroIn KX ob)
  have run : wpAny (model prog w) A (call (.builtin "object.__ne__") [.ref a, b]) (fun v s' => ∃ z, v = .bool z ∧ Q (.bool z) s') E s := by
    refine wpAny_call (codeAny_call_builtin F.cmp_object.ne.plain F.cmpEntry_ne (PySem.W.check_slot F.cmpKind_ne F.cmpSplit_ne sub (F.cmpArgs_ne _ _) ?_))
    unfold Builtin.«object.__ne__»
    have e1 : slotArgs "__ne__" 1 ⟨[.ref a, b], []⟩ = pure (.ref a, [b]) := rfl
    rw [e1]
    refine wpAny_bind (wpAny_pure (wpAny_bind (wpAny_cRoomFor (by show A.units + 1 < cLine; omega) (wpAny_bind (PySem.W.ifBound_K KX J hs hf (wpAny_mono h (fun v s' hv => ?_) fun _ _ e => e))))))
    obtain ⟨z, rfl, hq⟩ := hv
    refine wpAny_bind (m := truthy (.bool z)) (wpAny_truthy_bool ?_)
    exact wpAny_pure ⟨!z, rfl, hq⟩
  unfold tryCompare
  have lk := PySem.W.looks_findIn (M := model prog w) KX ne
  simp only [callSpecialIfBound?, bindSpecialIfBound?]
  refine wpAny_bind (wpAny_holding (wpAny_bind (wpAny_bind (wpAny_bind (J.type.here (lk.here ?_))))))
  refine wpAny_bind (wpAny_askSetting (wpAny_ite ?_))
  have fin : wpAny (model prog w) A (call (.builtin "object.__ne__") ([.ref a] ++ [b]) >>= fun v => pure (some v)) (fun r s' => wpAny (model prog w) A (match r with | some .notImplemented | none => pure none | some v => pure (some v)) (fun r s' => ∃ v, r = some v ∧ Q v s') E s') E s :=
    wpAny_bind (wpAny_mono run (fun v s' hv => by
      obtain ⟨z, rfl, hq⟩ := hv
      exact wpAny_pure (wpAny_pure ⟨_, rfl, hq⟩)) fun _ _ h' => h')
  have bd := F.cmp_object.ne.bind (.ref a)
  split
  · simp only [bd]
    exact wpAny_bind (wpAny_pure (wpAny_pure fin))
  · simp only [bd]
    exact wpAny_tryCatch (wpAny_bind (wpAny_pure (wpAny_pure fin)))
end

section
variable {X : Cx} {T : Tx X.K} {W : WX}
theorem ov_ownNe {okT : Nat → Ty → Bool} {fw : Nat → Option Mv} (h : ∀ c M, fw c = some M → OwnNeK X T W c M) (tk : Takes X W) (hc : ∀ c c', okT c (.c c') = true → c' = c ∧ InsK X.K (T.cls c)) (hx : ∀ c c', okT c (.x c') = false) (hb : ∀ c n, okT c (.b n) = true → PySem.W.subIn X.K (.type n) (.ref (T.cls c)) = some false) :
    OpV T W (compareOp .NotEq) (oOwnNe okT fw) := fun pins s σ H Fz A st v1 v2 x y u1 u2 Q I w r1 r2 p1 p2 g => by
  unfold oOwnNe at g
  split at g
  · rename_i c hcl
    split at g
    · rename_i t ht
      split at g
      · rename_i hok
        split at g
        · rename_i M hM
          obtain ⟨ne, ob, f, k, fd, ps, hs, hf, F, hr, hbd, hp2⟩ := h c M hM
          obtain ⟨a, dx, fs, vs, rfl, ha, _⟩ := clsOf_rep w p1 hcl
          obtain rfl : u1 = .ref a := r1
          obtain ⟨mA, J, _⟩ := ins_get I.hok ha
          obtain ⟨od, J, _⟩ := J.look
          have hu := hr.un
          have lk := fun M => ty_looks (M := M) (fun c' e => by subst e; obtain ⟨e1, e2⟩ := hc c c' hok; rw [e1]; exact e2) (fun c' e => by subst e; rw [hx] at hok; cases hok) I w p2 r2 ht
          have nf := notF (X := X) (T := T) (c := c) (t := t) (fun c' e => by subst e; exact (hc c c' hok).1) (fun c' e => by subst e; rw [hx] at hok; cases hok) (fun n e => by subst e; exact hb c n hok)
          have e0 : Env0 X.prog X.w X.K X.mg X.base X.A.in1 X.stack s H := I.env0.in1
          have l2 : ([V.ref a, y] : List V).length = ps.length := by rw [hp2]; rfl
          have gg : Go T Fz A (okV T fun v H' => ∃ z, v = .bl z ∧ Q (.bl (!z)) H') (exW W σ) (M [v1, v2] st) := g.bnd.imp (fun v H' F B st' _ _ _ hh => fun x r => by
            obtain ⟨_, _, w', g'⟩ := hh
            split at g'
            · rename_i z
              cases r
              exact ⟨z, rfl, g' H' F B (Same.refl _) (Ap.refl _) w' _ (.bl _)⟩
            · exact g'.elim) fun _ _ _ h => h
          have run : wpAny (model X.prog X.w) X.A.in1 (call (.ref f) [.ref a, u2]) (fun v s' => ∃ z, v = .bool z ∧ EP X pins σ Q (.bool (!z)) s') X.xe s := by
            refine wpAny_call (codeAny_mono (F.run X.A.in1 X.stack s H ⟨[.ref a, u2], []⟩ [.ref a, u2] [.ref a, y] _ (WE W σ) hr.in1 e0 (by
              have := hbd s [.ref a, u2] I.kIn (by rw [List.append_nil, hp2]; rfl)
              rw [List.append_nil] at this
              exact this) (.cons rfl (.cons r2 .nil)) ⟨l2, [v1, v2], st, Fz, A, w, .cons p1 (.cons p2 .nil), gg⟩) fun r s' hq => ?_)
            cases r with
            | error e => exact passAt tk σ pins H s e s' I hq
            | ok fl =>
              cases fl with
              | ret u =>
                obtain ⟨v, H', I', rv, z, e, q⟩ := I.after hq
                subst e
                cases rv
                exact ⟨z, rfl, .bl (!z), H', I', rfl, q⟩
              | next => exact False.elim hq
              | brk => exact False.elim hq
              | cont => exact False.elim hq
          have one := ne_call (b := u2) (by omega) I.kIn J ne ob hs hf run
          show wpAny (model X.prog X.w) X.A (richCompare .NotEq (.ref a) u2) (EP X pins σ Q) X.xe s
          unfold richCompare
          simp only [oneThing_ref]
          refine wpAny_holding (wpAny_bind (wpAny_cRoomFor (by omega) ?_))
          rw [cmpInfo_NotEq]
          dsimp only
          refine wpAny_bind (J.type.here (wpAny_bind ((lk _).here ?_)))
          have fin : wpAny (model X.prog X.w) X.A (tryCompare (.ref a) "__ne__" u2) (fun r s' => ∃ v, r = some v ∧ EP X pins σ Q v s') X.xe s := one
          by_cases q : (Value.ref (T.cls c) != tyV' T t) = true
          · have e : PySem.W.subIn X.K (tyV' T t) (.ref (T.cls c)) = some false := by
              rcases Bool.or_eq_true_iff.mp nf with e | e
              · rw [beq_iff_eq.mp e] at q; simp at q
              · exact beq_iff_eq.mp e
            simp only [q, if_true]
            refine wpAny_bind ((PySem.W.looks_subIn I.kIn e).here ?_)
            simp only [Bool.false_eq_true, if_false]
            refine wpAny_bind (wpAny_mono fin (fun r s' hr => ?_) fun _ _ e => e)
            obtain ⟨v, rfl, hq⟩ := hr
            exact wpAny_pure hq
          · have q' : (Value.ref (T.cls c) != tyV' T t) = false := by simpa using q
            simp only [q', Bool.false_eq_true, if_false]
            refine wpAny_bind (wpAny_pure ?_)
            simp only [Bool.false_eq_true, if_false]
            refine wpAny_bind (wpAny_mono fin (fun r s' hr => ?_) fun _ _ e => e)
            obtain ⟨v, rfl, hq⟩ := hr
            exact wpAny_pure hq
        · exact g.elim
      · exact g.elim
    · exact g.elim
  · exact g.elim
end
end EL

set_option Elab.async false
set_option linter.all false
set_option maxRecDepth 100000
set_option maxHeartbeats 1000000
/-! EL16: while; built-in functions called. -/
namespace EL
open PySem PySem.Spec PyProof.Rows L2
def whileN (t : Tv) (b : Sv) : Nat → Sv
  | 0, _, _ => none
  | n + 1, ls, st => stE (t ls st) ls fun c st => match c with
    | false => some (.nx ls, st)
    | true => match b ls st with
      | some (.nx ls2, st2) => whileN t b n ls2 st2
      | some (.ct ls2, st2) => whileN t b n ls2 st2
      | some (.bk ls2, st2) => some (.nx ls2, st2)
      | z => z
/-- while t: b; μ: more turns than are gone -/
def sWhile (μ : Ls → Sto → Nat) (t : Tv) (b : Sv) : Sv := fun ls st => whileN t b (μ ls st) ls st
section
variable {X : Cx} {T : Tx X.K} {W : WX} {c : Expr} {body : List Stmt} {pos p p2 : Pos} {t : Tv} {b : Sv} {μ : Ls → Sto → Nat} {x : Str} {e : Expr} {es : List Expr} {fr : Av} {F : Mv} {id : String}
theorem es_while (hp : PassesOwn (model X.prog X.w) X.A X.env X.xe) (hc : PT X c (tTv T W t)) (hb : PSs X body (tSv T W b)) : PS X (.While c body [] pos) (tSv T W (sWhile μ t b)) := PS.imp (ps_while hp hc hb) fun D σ H => by
  rintro ⟨ls, st, Fz, A, w, sr, q⟩
  refine ⟨fun m σ' H' => ∃ ls' st' F' B', Wd T H' F' B' st' ∧ SR T F' B' ls' σ' ∧ GoS T W D F' B' (whileN t b m ls' st'), ⟨μ ls st, ls, st, Fz, A, w, sr, q⟩, ?_⟩
  rintro m σ' H' ⟨ls', st', F', B', w', sr', g⟩
  cases m with
  | zero => exact g.elim
  | succ m =>
    refine tTv_q (tTv_st w' sr' g) fun c H1 hh => ?_
    obtain ⟨F, B, st1, s1, p1, w1, sr1, g1⟩ := hh
    cases c with
    | false => exact iteF (g1 H1 F B σ' (Same.refl _) (Ap.refl _) w1 sr1)
    | true =>
      refine iteT ⟨fun σ' H' => ∃ ls' st' F' B', Wd T H' F' B' st' ∧ SR T F' B' ls' σ' ∧ GoS T W D F' B' (whileN t b m ls' st'), fun σ2 H2 h => ⟨m, Nat.lt_succ_self m, h⟩, ls', st1, F, B, w1, sr1, ?_⟩
      simp only at g1
      cases e : b ls' st1 with
      | none => rw [e] at g1; exact g1.elim
      | some y =>
        rw [e] at g1
        match y, g1 with
        | (.nx ls2, st2), g1 => exact fun H F B σ h1 h2 w sr => ⟨ls2, st2, F, B, w, sr, g1.mono h1 h2⟩
        | (.ct ls2, st2), g1 => exact fun H F B σ h1 h2 w sr => ⟨ls2, st2, F, B, w, sr, g1.mono h1 h2⟩
        | (.bk ls2, st2), g1 => exact g1
        | (.rt v, st2), g1 => exact g1
        | (.ex c fs ls2, st2), g1 => exact g1
/-! ### built-in functions -/
def eCallB (F : Mv) (r : Av) : Ev := fun ls st => bnd (r ls st) F
theorem ev_callBu (hc : CallV T W (.builtin id) F) (hg : Gl X x) (hm : X.mg x = none) (hv : bootBuiltins x = some (.builtin id)) (ha : EA X T W (e :: es) fr) (hn : x ≠ "__name__" := by decide) (hdb : (x == ("__debug__" : Str)) = false := by decide)
    (he : starEach (e :: es) X.env = (false, eval e X.env) :: starEach es X.env := by rfl) (hpl : (backTo pos (starEach es X.env)).any (·.1) = false := by rfl) : PE X (.Call (.Name x p) (e :: es) [] pos) (tEv T W (eCallB F fr)) := by
  refine ⟨fun pins s σ H Q I h => ?_⟩
  obtain ⟨ls, st, Fz, A, w, sr, g⟩ := h
  refine wpAny_Call_Name_kw (ld_blt I hg hm hv ?_ hn hdb)
  refine PyProof.Rows.callWith_builtin1 (thn (ha.pa.run pos pins s σ H _ I (tAv_seq w sr g)) fun us s1 ⟨xs, H1, I1, r1, q1⟩ => ?_) he hpl
  obtain ⟨vs, F1, A1, st1, s1', p1, w1, sr1, rp1, g1⟩ := q1
  exact hc pins s1 σ H1 F1 A1 st1 vs xs us Q I1 w1 r1 rp1 g1
theorem ev_callTy {Ty : String} (hc : CallV T W (.type Ty) F) (hg : Gl X x) (hm : X.mg x = none) (hv : bootBuiltins x = some (.type Ty)) (ha : EA X T W (e :: es) fr) (hn : x ≠ "__name__" := by decide) (hdb : (x == ("__debug__" : Str)) = false := by decide)
    (he : starEach (e :: es) X.env = (false, eval e X.env) :: starEach es X.env := by rfl) (hpl : (backTo pos (starEach es X.env)).any (·.1) = false := by rfl) : PE X (.Call (.Name x p) (e :: es) [] pos) (tEv T W (eCallB F fr)) := by
  refine ⟨fun pins s σ H Q I h => ?_⟩
  obtain ⟨ls, st, Fz, A, w, sr, g⟩ := h
  refine wpAny_Call_Name_kw (ld_blt I hg hm hv ?_ hn hdb)
  refine PyProof.Rows.callWith_type1 (thn (ha.pa.run pos pins s σ H _ I (tAv_seq w sr g)) fun us s1 ⟨xs, H1, I1, r1, q1⟩ => ?_) he hpl
  obtain ⟨vs, F1, A1, st1, s1', p1, w1, sr1, rp1, g1⟩ := q1
  exact hc pins s1 σ H1 F1 A1 st1 vs xs us Q I1 w1 r1 rp1 g1
/-- a module's name for a built-in function -/
theorem ev_callMb (hc : CallV T W (.builtin id) F) (hg : Gl X x) (hm : X.mg x = some (.builtin id)) (ha : EA X T W (e :: es) fr) (hdb : (x == ("__debug__" : Str)) = false := by decide)
    (he : starEach (e :: es) X.env = (false, eval e X.env) :: starEach es X.env := by rfl) (hpl : (backTo pos (starEach es X.env)).any (·.1) = false := by rfl) : PE X (.Call (.Name x p) (e :: es) [] pos) (tEv T W (eCallB F fr)) := by
  refine ⟨fun pins s σ H Q I h => ?_⟩
  obtain ⟨ls, st, Fz, A, w, sr, g⟩ := h
  refine wpAny_Call_Name_kw (ld_glob I hg hm ?_ hdb)
  refine PyProof.Rows.callWith_builtin1 (thn (ha.pa.run pos pins s σ H _ I (tAv_seq w sr g)) fun us s1 ⟨xs, H1, I1, r1, q1⟩ => ?_) he hpl
  obtain ⟨vs, F1, A1, st1, s1', p1, w1, sr1, rp1, g1⟩ := q1
  exact hc pins s1 σ H1 F1 A1 st1 vs xs us Q I1 w1 r1 rp1 g1
end
def fAbs : Mv := fun vs st => match vs with
  | [.int i] => some (.ok (.int (if i < 0 then -i else i)), st)
  | _ => .none
def fInt : Mv := fun vs st => match vs with
  | [.int i] => some (.ok (.int i), st)
  | [.bl k] => some (.ok (.int (if k then 1 else 0)), st)
  | _ => .none
def fGcd : Mv := fun vs st => match vs with
  | [.int a, .int b] => some (.ok (.int ((Nat.gcd a.natAbs b.natAbs : Nat) : Int)), st)
  | _ => .none
def fLen : Mv := fun vs st => match vs with
  | [.tup xs] => some (.ok (.int xs.length), st)
  | [.lst xs] => some (.ok (.int xs.length), st)
  | [.str z] => if z.length ≤ 16777216 then some (.ok (.int z.length), st) else .none
  | [.ob r] => match st[r]? with
    | some (.lst xs) => some (.ok (.int xs.length), st)
    | some (.dct xs) => some (.ok (.int xs.length), st)
    | _ => .none
  | _ => .none
section
variable {X : Cx} {T : Tx X.K} {W : WX}
theorem reps_one {K : PySem.W.Frag} {T : Tx K} {Fz : Hp} {A : Ad} {v : LV} {xs : List V} (r : Reps T Fz A [v] xs) : ∃ x, xs = [x] ∧ Rep T Fz A v x := by
  cases r with | cons h r => cases r; exact ⟨_, rfl, h⟩
theorem cv_abs : CallV T W (.builtin "abs") fAbs := .of call_abs fun {H Fz A st vs xs Q ex} w r g => by
  unfold fAbs at g
  split at g
  · rename_i i
    have e := reps1 r
    exact ⟨i, e, g.ok w _ (.int _)⟩
  · exact g.elim
theorem cv_int : CallV T W (.type "int") fInt := .of call_int1 fun {H Fz A st vs xs Q ex} w r g => by
  unfold fInt at g
  split at g
  · rename_i i
    exact .inl ⟨i, reps1 r, g.ok w _ (.int _)⟩
  · rename_i k
    obtain ⟨x, e, rx⟩ := reps_one r
    cases rx
    exact .inr ⟨k, e, g.ok w _ (.int _)⟩
  · exact g.elim
theorem cv_gcd : CallV T W (.builtin "math.gcd") fGcd := .of cr_gcd fun {H Fz A st vs xs Q ex} w r g => by
  unfold fGcd at g
  split at g
  · rename_i a b
    exact ⟨a, b, reps2 r, g.ok w _ (.int _)⟩
  · exact g.elim
theorem cv_len : CallV T W (.builtin "len") fLen := .of ((call_len_seq.or call_len_str).or call_lenD) fun {H Fz A st vs xs Q ex} w r g => by
  unfold fLen at g
  split at g
  · rename_i ys
    obtain ⟨x, e, rx⟩ := reps_one r
    cases rx with
    | tup h rr => exact .inl (.inl ⟨_, _, e, .inr (sqT_mono w.fz h), by rw [← rr.length]; exact g.ok w _ (.int _)⟩)
  · rename_i ys
    obtain ⟨x, e, rx⟩ := reps_one r
    cases rx with
    | lst h rr => exact .inl (.inl ⟨_, _, e, .inl (w.fz.seq h), by rw [← rr.length]; exact g.ok w _ (.int _)⟩)
  · rename_i z
    split at g
    · rename_i hz
      obtain ⟨x, e, rx⟩ := reps_one r
      cases rx
      exact .inl (.inr ⟨z, e, by rw [sizeLine_eq]; exact hz, g.ok w _ (.int _)⟩)
    · exact g.elim
  · rename_i r'
    obtain ⟨x, e, rx⟩ := reps_one r
    obtain ⟨a, ex, hA⟩ := rep_ob rx
    subst ex
    split at g
    · rename_i ys hs
      obtain ⟨vs, hv, rr⟩ := w.mo _ a _ hA hs
      exact .inl (.inl ⟨_, _, e, .inl (SqL.of hv), by rw [← rr.length]; exact g.ok w _ (.int _)⟩)
    · rename_i ys hs
      obtain ⟨vs, hv, rr⟩ := w.mo _ a _ hA hs
      exact .inr ⟨_, _, e, hv, by rw [← RepK.length rr]; exact g.ok w _ (.int _)⟩
    · exact g.elim
  · exact g.elim
end
/-! ### slices -/
/-- the items of xs[lo:hi] -/
def cutL (xs : List LV) (lo hi : Option Int) : List LV := (xs.drop (HT.sIx xs.length 0 lo)).take (HT.sIx xs.length xs.length hi - HT.sIx xs.length 0 lo)
theorem Reps.drop {K : PySem.W.Frag} {T : Tx K} {Fz : Hp} {A : Ad} : ∀ {v : List LV} {x : List V} (n : Nat), Reps T Fz A v x → Reps T Fz A (v.drop n) (x.drop n)
  | _, _, 0, h => h
  | _, _, _ + 1, .nil => .nil
  | _, _, n + 1, .cons _ r => Reps.drop n r
theorem Reps.take {K : PySem.W.Frag} {T : Tx K} {Fz : Hp} {A : Ad} : ∀ {v : List LV} {x : List V} (n : Nat), Reps T Fz A v x → Reps T Fz A (v.take n) (x.take n)
  | _, _, 0, _ => .nil
  | _, _, _ + 1, .nil => .nil
  | _, _, n + 1, .cons h r => .cons h (Reps.take n r)
theorem Reps.cut {K : PySem.W.Frag} {T : Tx K} {Fz : Hp} {A : Ad} {v : List LV} {x : List V} (r : Reps T Fz A v x) (lo hi : Option Int) : Reps T Fz A (cutL v lo hi) (cutV x lo hi) := by
  unfold cutL cutV
  rw [r.length]
  exact (r.drop _).take _
def slL (v : LV) (lo hi : Option Int) (st : Sto) : Rz LV := match v with
  | .lst xs => some (.ok (.lst (cutL xs lo hi)), st)
  | .str z => if z.length ≤ 16777216 then some (.ok (.str (cutS z lo hi)), st) else .none
  | .tup xs => some (.ok (.tup (cutL xs lo hi)), st)
  | .ob r => match st[r]? with
    | some (.lst xs) => some (.ok (.lst (cutL xs lo hi)), st)
    | _ => .none
  | _ => .none
/-- .. a list that changes -/
def slM (v : LV) (lo hi : Option Int) (st : Sto) : Rz LV := match v with
  | .lst xs => some (.ok (.ob st.length), st ++ [.lst (cutL xs lo hi)])
  | .ob r => match st[r]? with
    | some (.lst xs) => some (.ok (.ob st.length), st ++ [.lst (cutL xs lo hi)])
    | _ => .none
  | _ => .none
def optI (o : Option Ev) : Ls → Sto → Rz (Option Int) := fun ls st => match o with
  | .none => some (.ok .none, st)
  | some f => bnd (f ls st) fun v st => match v with
    | .int i => some (.ok (some i), st)
    | _ => .none
def eSl (S : LV → Option Int → Option Int → Sto → Rz LV) (e : Ev) (lo hi : Option Ev) : Ev := fun ls st => bnd (e ls st) fun v st => bnd (optI lo ls st) fun l st => bnd (optI hi ls st) fun u st => S v l u st
section
variable {X : Cx} {T : Tx X.K} {W : WX} {e : Expr} {lo hi : Option Expr} {fe : Ev} {fl fh : Option Ev} {pos p2 : Pos}
def tOI (T : Tx X.K) (W : WX) (f : Option Ev) : TO := fun σ H Q => ∃ ls st Fz A, Wd T H Fz A st ∧ SR T Fz A ls σ ∧ Go T Fz A (fun o H' _ _ _ => Q o H') (exW W σ) (optI f ls st)
theorem eo_none : PO X none (tOI T W none) := ⟨fun pins s σ H Q I h => by
  obtain ⟨ls, st, Fz, A, w, sr, g⟩ := h
  exact po_none.run pins s σ H Q I (g H Fz A (Same.refl _) (Ap.refl _) w)⟩
theorem eo_some (h : PE X e (tEv T W fe)) : PO X (some e) (tOI T W (some fe)) := ⟨fun pins s σ H Q I hw => by
  obtain ⟨ls, st, Fz, A, w, sr, g⟩ := hw
  refine (po_some h).run pins s σ H Q I (tEv_q (tEv_seq w sr g) fun x H1 hh => ?_)
  obtain ⟨v, F, B, st1, s1, p1, w1, sr1, r1, g1⟩ := hh
  split at g1
  · rename_i i
    cases r1
    exact ⟨i, rfl, g1 H1 F B (Same.refl _) (Ap.refl _) w1⟩
  · exact g1.elim⟩
theorem tOI_seq {β : Type} {H Fz : Hp} {A : Ad} {st : Sto} {f : Option Ev} {ls : Ls} {σ : L2.St} {k : Option Int → Sto → Rz β} {ok : Ok β} (w : Wd T H Fz A st) (s : SR T Fz A ls σ) (g : Go T Fz A ok (exW W σ) (bnd (optI f ls st) k)) :
    tOI T W f σ H fun v H1 => ∃ F B st1, Same Fz F ∧ Ap A B ∧ Wd T H1 F B st1 ∧ SR T F B ls σ ∧ Go T F B ok (exW W σ) (k v st1) :=
  ⟨ls, st, Fz, A, w, s, g.bnd.imp (fun v H F B st h1 h2 w' h => ⟨F, B, st, h.1, h.2.1, h.2.2.1, s.mono h.1 h.2.1, h.2.2.2⟩) fun _ _ _ h => h⟩
theorem ev_slice (he : PE X e (tEv T W fe)) (hl : PO X lo (tOI T W fl)) (hh : PO X hi (tOI T W fh)) : PE X (.Subscript e (.Slice lo hi none p2) pos) (tEv T W (eSl slL fe fl fh)) := PE.imp (pe_slice ((sl_list.or sl_str).or sl_tupA) he hl hh) fun σ H Q => by
  rintro ⟨ls, st, Fz, A, w, sr, g⟩
  refine tEv_q (tEv_seq w sr g) fun x H1 h1 => ?_
  obtain ⟨v, F, B, st1, s1, p1, w1, sr1, r1, g1⟩ := h1
  obtain ⟨ls', st', Fz', A', w', sr', q'⟩ := tOI_seq w1 sr1 g1
  refine ⟨ls', st', Fz', A', w', sr', q'.imp (fun l H2 _ _ _ _ _ _ h2 => ?_) fun _ _ _ h => h⟩
  obtain ⟨F2, B2, st2, s2, p2, w2, sr2, g2⟩ := h2
  obtain ⟨ls', st', Fz', A', w', sr', q'⟩ := tOI_seq w2 sr2 g2
  refine ⟨ls', st', Fz', A', w', sr', q'.imp (fun u H3 _ _ _ _ _ _ h3 => ?_) fun _ _ _ h => h⟩
  obtain ⟨F3, B3, st3, s3, p3, w3, sr3, g3⟩ := h3
  have r3 := (r1.mono s2 p2).mono s3 p3
  have new : ∀ {xs : List LV} {vs : List V} {a : Addr}, SqL X.K H3 a vs → Reps T F3 B3 xs vs → Go T F3 B3 (okV T Q) (exW W σ) (some (.ok (.lst (cutL xs l u)), st3)) → rSlL X.K (.ref a) l u H3 Q := fun {xs vs a} h rr g => ⟨a, vs, rfl, h, fun p n => by
    have sm := same_upd (o := .lst (cutV vs l u)) (w3.fn n)
    exact g _ (upd F3 p (.lst (cutV vs l u))) B3 sm (Ap.refl _) (w3.new n fun _ => nofun) _ (.lst (SqL.of upd_same) ((rr.cut l u).mono sm (Ap.refl _)))⟩
  unfold slL at g3
  split at g3
  · cases r3 with
    | lst h rr => exact .inl (.inl (new (w3.fz.seq h) rr g3))
  · split at g3
    · rename_i hz
      cases r3
      exact .inl (.inr ⟨_, rfl, by rw [sizeLine_eq]; exact hz, g3.ok w3 _ (.str _)⟩)
    · exact g3.elim
  · cases r3 with
    | @tup xs vs a h rr =>
      refine .inr ⟨a, vs, rfl, sqT_mono w3.fz h, fun hw => ?_, fun _ p n => ?_⟩
      · rw [← rr.length] at hw
        have e : ∀ ys : List LV, HT.sIx ys.length 0 l = 0 ∧ HT.sIx ys.length ys.length u = ys.length → cutL ys l u = ys := fun ys hw => by unfold cutL; rw [hw.1, hw.2]; simp
        rw [e _ hw] at g3
        exact g3.ok w3 _ (.tup h rr)
      · have sm := same_upd (o := .tup (cutV vs l u)) (w3.fn n)
        exact g3 _ (upd F3 p (.tup (cutV vs l u))) B3 sm (Ap.refl _) (w3.new n fun _ => nofun) _ (.tup (SqT.of upd_same) ((rr.cut l u).mono sm (Ap.refl _)))
  · rename_i r'
    obtain ⟨a, ex, hA⟩ := rep_ob r3
    subst ex
    split at g3
    · rename_i ys hs
      obtain ⟨vs, hv, rr⟩ := w3.mo _ a _ hA hs
      exact .inl (.inl (new (SqL.of hv) rr g3))
    · exact g3.elim
  · exact g3.elim
theorem ev_sliceM (he : PE X e (tEv T W fe)) (hl : PO X lo (tOI T W fl)) (hh : PO X hi (tOI T W fh)) : PE X (.Subscript e (.Slice lo hi none p2) pos) (tEv T W (eSl slM fe fl fh)) := PE.imp (pe_slice sl_list he hl hh) fun σ H Q => by
  rintro ⟨ls, st, Fz, A, w, sr, g⟩
  refine tEv_q (tEv_seq w sr g) fun x H1 h1 => ?_
  obtain ⟨v, F, B, st1, s1, p1, w1, sr1, r1, g1⟩ := h1
  obtain ⟨ls', st', Fz', A', w', sr', q'⟩ := tOI_seq w1 sr1 g1
  refine ⟨ls', st', Fz', A', w', sr', q'.imp (fun l H2 _ _ _ _ _ _ h2 => ?_) fun _ _ _ h => h⟩
  obtain ⟨F2, B2, st2, s2, p2, w2, sr2, g2⟩ := h2
  obtain ⟨ls', st', Fz', A', w', sr', q'⟩ := tOI_seq w2 sr2 g2
  refine ⟨ls', st', Fz', A', w', sr', q'.imp (fun u H3 _ _ _ _ _ _ h3 => ?_) fun _ _ _ h => h⟩
  obtain ⟨F3, B3, st3, s3, p3, w3, sr3, g3⟩ := h3
  have r3 := (r1.mono s2 p2).mono s3 p3
  have new : ∀ {xs : List LV} {vs : List V} {a : Addr}, SqL X.K H3 a vs → Reps T F3 B3 xs vs → Go T F3 B3 (okV T Q) (exW W σ) (some (.ok (.ob st3.length), st3 ++ [.lst (cutL xs l u)])) → rSlL X.K (.ref a) l u H3 Q := fun {xs vs a} h rr g => ⟨a, vs, rfl, h, fun p n =>
    g _ F3 (B3.snoc p) (Same.refl _) (ap_snoc B3 p) (w3.grow n ⟨_, upd_same, (rr.cut l u).mono (Same.refl _) (ap_snoc B3 p)⟩) _ (.ob (ap_last w3 p))⟩
  unfold slM at g3
  split at g3
  · cases r3 with
    | lst h rr => exact new (w3.fz.seq h) rr g3
  · rename_i r'
    obtain ⟨a, ex, hA⟩ := rep_ob r3
    subst ex
    split at g3
    · rename_i ys hs
      obtain ⟨vs, hv, rr⟩ := w3.mo _ a _ hA hs
      exact new (SqL.of hv) rr g3
    · exact g3.elim
  · exact g3.elim
end
end EL

set_option Elab.async false
set_option linter.all false
set_option maxRecDepth 100000
set_option maxHeartbeats 1000000
/-! EL17: helpers for written-out derivations. -/
namespace EL
open PySem PySem.Spec PyProof.Rows L2
/-- the names of the fields; what is beyond is nobody's -/
def nmOf (l : List Str) (n : Nat) : Str := match l[n]? with
  | some s => s
  | none => ⟨Array.replicate (n + 1000) 0⟩
theorem nmOf_inj {l : List Str} (h : l.Nodup) (s : ∀ x ∈ l, x.cps.size < 1000) : ∀ i j, nmOf l i = nmOf l j → i = j := fun i j e => by
  unfold nmOf at e
  cases hi : l[i]? with
  | none =>
    rw [hi] at e
    cases hj : l[j]? with
    | none =>
      rw [hj] at e
      have := congrArg (fun z : Str => z.cps.size) e
      simp at this; exact this
    | some y =>
      rw [hj] at e
      have := congrArg (fun z : Str => z.cps.size) e
      have q := s y (List.mem_of_getElem? hj)
      simp at this; omega
  | some x =>
    rw [hi] at e
    cases hj : l[j]? with
    | none =>
      rw [hj] at e
      have := congrArg (fun z : Str => z.cps.size) e
      have q := s x (List.mem_of_getElem? hi)
      simp at this; omega
    | some y =>
      rw [hj] at e
      have e : x = y := e
      subst e
      exact L2.nodup_ix h hi hj
theorem nmOf_ne {l : List Str} {m : Str} (h : m ∉ l) (s : m.cps.size < 1000) : ∀ g, nmOf l g ≠ m := fun g e => by
  unfold nmOf at e
  cases hi : l[g]? with
  | none =>
    rw [hi] at e
    have := congrArg (fun z : Str => z.cps.size) e
    simp at this; omega
  | some x =>
    rw [hi] at e
    have e : x = m := e
    subst e
    exact h (List.mem_of_getElem? hi)
/-- by class -/
def tbOf (l : List (Nat × Mv2)) (c : Nat) : Option Mv2 := l.lookup c
theorem tb_1 {X : Cx} {T : Tx X.K} {W : WX} {m : Str} {n : Nat} {ks : List Str} {c : Nat} {F : Mv2} (h : MtOk X T W m n ks c F) : ∀ c' F', tbOf [(c, F)] c' = some F' → MtOk X T W m n ks c' F' := fun c' F' e => by
  unfold tbOf at e
  rw [List.lookup_cons] at e
  by_cases q : c' = c
  · subst q; simp at e; subst e; exact h
  · rw [show (c' == c) = false by simpa using q] at e; cases e
section
variable {X : Cx} {x : Str} {pos : Pos}
theorem pe_cls {C : Addr} (hg : Gl X x) (hm : X.mg x = some (.ref C)) (hd : (x == ("__debug__" : Str)) = false := by decide) : PE X (.Name x pos) (tC (.ref C)) := pe_glob hg hm rfl hd
theorem pe_tyN {n : String} (hg : Gl X x) (hm : X.mg x = none) (hv : bootBuiltins x = some (.type n)) (hn : x ≠ "__name__" := by decide) (hd : (x == ("__debug__" : Str)) = false := by decide) : PE X (.Name x pos) (tC (.ty n)) := pe_bltn hg hm hv rfl hn hd
end
/-- the block of a comprehension, by places -/
theorem blk_of {X : Cx} {N : List Str} {sc scope : Scope} {own : List (Str × Nat)} (h : BlkOk N sc scope own) (e1 : X.N = N) (e2 : X.env.scope = sc) : BlkOk X.N X.env.scope scope own := by rw [e1, e2]; exact h
/-- an error's __init__ of one field -/
theorem ok_x1 {P : Program} {w : World} {K : PySem.W.Frag} {mg : Str → Option Value} {base : Heap} {p qual fld : Str} {params : Arguments} {body : List Stmt} {scope : Scope} {fI : Addr} {fd : FuncData} (F : FunD K "__init__" qual params body scope [] [] fI fd) (S : FnScope ["self", p] ["self", p] scope)
    (hb : ∀ (cdv : Value) (A : Around) (outer : List Env) (s : Shared) (H : Hp) (E : XK), PSs (cxOf CX0 P w K mg base ["self", p] qual scope fI cdv A outer s H E) body (tOst K fld (tVar 0) (tVar 1))) : FnOk P w K mg base CX0 1 fI fd ["self", p] (spX1 K fld) := by
  refine FunD.ok F S (fun vs H Q E h => ?_) fun cdv A outer s H vs Q E hr h => ⟨_, hb cdv A outer s H E, ?_⟩
  · obtain ⟨a, C, v, rfl, _⟩ := h; rfl
  · obtain ⟨a, C, v, rfl, oc, fn, ha, k⟩ := h
    exact ⟨v, rfl, .ref a, rfl, a, C, rfl, oc, fn, .inl ⟨ha, k⟩⟩
theorem binds2 {K : PySem.W.Frag} {qual p : Str} {params : Arguments} {body : List Stmt} {scope : Scope} {fI : Addr} {fd : FuncData} (F : FunD K "__init__" qual params body scope [] [] fI fd)
    (h : ∀ (kV doc pm : Value) (an : Option Addr) (cdv ct : Value) (u v : Value), bindArgs (PySem.W.fnOf "__init__" qual params body scope .none kV doc pm an cdv ct) ⟨[u, v], []⟩ = pure ((["self", p] : List Str).zip [u, v])) : L2.Binds K fd ["self", p] [] := by
  obtain ⟨oc, od, dV, kV, doc, pm, an, cdv, ct, osl, rfl, lk, hcd, hD, hK⟩ := F.ex
  rcases hD with ⟨_, rfl⟩ | ⟨e, _⟩
  · exact L2.Binds.all fun us hl => match us, hl with | [u, v], _ => h kV doc pm an cdv ct u v
  · exact absurd rfl e
section
variable {X : Cx} {W : WX} {C fI : Addr} {fd : FuncData} {x p fld : Str} {e : Expr} {pos cp np : Pos} {ta : TA}
theorem raise1 (oc : OexC X.K C) (iC : PySem.W.findIn X.K (.ref C) "__init__" = some (some (.ref fI))) (tI : PySem.W.typeIn X.K (.ref fI) = some (.type "function")) (F : FnOk X.prog X.w X.K X.mg X.base CX0 1 fI fd ["self", p] (spX1 X.K fld)) (hb : L2.Binds X.K fd ["self", p] []) (hc : X.calm = true) (tk : Takes X W) (hr : Room 2 X.A) (hg : Gl X x) (hm : X.mg x = some (.ref C)) (ha : PA X [e] ta)
    (hdb : (x == ("__debug__" : Str)) = false := by decide) (he : starEach [e] X.env = (false, eval e X.env) :: starEach [] X.env := by rfl) (hpl : (backTo cp (starEach [] X.env)).any (·.1) = false := by rfl) :
    PS X (.Raise (some (.Call (.Name x np) [e] [] cp)) none pos) (fun _ σ H => tMkO C (spX1 X.K fld) [] ta σ H fun cls d H' => W cls d σ H') :=
  ps_raise hc tk (pmk_oex (dvs := []) oc iC tI F hr hb .nil pass0 hg hm ha hdb he hpl)
end
end EL

set_option Elab.async false
set_option linter.all false
set_option maxRecDepth 100000
set_option maxHeartbeats 1000000
/-! EL18: the built-in types beside an own class with operators. -/
namespace EL
open PySem PySem.Spec PySem.Calls PyProof.Rows L2
section
variable {K : PySem.W.Frag} {C : Addr}
theorem fw_int_add : PySem.W.findIn K (.type "int") (PySem.dunder "add") = some (some (.builtin "int.__add__")) := by kernel_rfl
theorem rv_int_add : PySem.W.findIn K (.type "int") (dunderR "add") = some (some (.builtin "int.__radd__")) := by kernel_rfl
theorem tyOp_int_add (h : PySem.W.subIn K (.type "int") (.ref C) = some false) (h' : PySem.W.subIn K (.ref C) (.type "int") = some false) : TyOp K .Add C "int" := ⟨⟨(some (.builtin "int.__add__")), (some (.builtin "int.__radd__")), fw_int_add, rv_int_add, .inr ⟨.inl rfl, .inl rfl⟩⟩, h, h'⟩
theorem fw_int_sub : PySem.W.findIn K (.type "int") (PySem.dunder "sub") = some (some (.builtin "int.__sub__")) := by kernel_rfl
theorem rv_int_sub : PySem.W.findIn K (.type "int") (dunderR "sub") = some (some (.builtin "int.__rsub__")) := by kernel_rfl
theorem tyOp_int_sub (h : PySem.W.subIn K (.type "int") (.ref C) = some false) (h' : PySem.W.subIn K (.ref C) (.type "int") = some false) : TyOp K .Sub C "int" := ⟨⟨(some (.builtin "int.__sub__")), (some (.builtin "int.__rsub__")), fw_int_sub, rv_int_sub, .inr ⟨.inr (.inl rfl), .inl rfl⟩⟩, h, h'⟩
theorem fw_int_mul : PySem.W.findIn K (.type "int") (PySem.dunder "mul") = some (some (.builtin "int.__mul__")) := by kernel_rfl
theorem rv_int_mul : PySem.W.findIn K (.type "int") (dunderR "mul") = some (some (.builtin "int.__rmul__")) := by kernel_rfl
theorem tyOp_int_mul (h : PySem.W.subIn K (.type "int") (.ref C) = some false) (h' : PySem.W.subIn K (.ref C) (.type "int") = some false) : TyOp K .Mult C "int" := ⟨⟨(some (.builtin "int.__mul__")), (some (.builtin "int.__rmul__")), fw_int_mul, rv_int_mul, .inr ⟨.inr (.inr rfl), .inl rfl⟩⟩, h, h'⟩
theorem fw_bool_add : PySem.W.findIn K (.type "bool") (PySem.dunder "add") = some (some (.builtin "int.__add__")) := by kernel_rfl
theorem rv_bool_add : PySem.W.findIn K (.type "bool") (dunderR "add") = some (some (.builtin "int.__radd__")) := by kernel_rfl
theorem tyOp_bool_add (h : PySem.W.subIn K (.type "bool") (.ref C) = some false) (h' : PySem.W.subIn K (.ref C) (.type "bool") = some false) : TyOp K .Add C "bool" := ⟨⟨(some (.builtin "int.__add__")), (some (.builtin "int.__radd__")), fw_bool_add, rv_bool_add, .inr ⟨.inl rfl, .inr rfl⟩⟩, h, h'⟩
theorem fw_bool_sub : PySem.W.findIn K (.type "bool") (PySem.dunder "sub") = some (some (.builtin "int.__sub__")) := by kernel_rfl
theorem rv_bool_sub : PySem.W.findIn K (.type "bool") (dunderR "sub") = some (some (.builtin "int.__rsub__")) := by kernel_rfl
theorem tyOp_bool_sub (h : PySem.W.subIn K (.type "bool") (.ref C) = some false) (h' : PySem.W.subIn K (.ref C) (.type "bool") = some false) : TyOp K .Sub C "bool" := ⟨⟨(some (.builtin "int.__sub__")), (some (.builtin "int.__rsub__")), fw_bool_sub, rv_bool_sub, .inr ⟨.inr (.inl rfl), .inr rfl⟩⟩, h, h'⟩
theorem fw_bool_mul : PySem.W.findIn K (.type "bool") (PySem.dunder "mul") = some (some (.builtin "int.__mul__")) := by kernel_rfl
theorem rv_bool_mul : PySem.W.findIn K (.type "bool") (dunderR "mul") = some (some (.builtin "int.__rmul__")) := by kernel_rfl
theorem tyOp_bool_mul (h : PySem.W.subIn K (.type "bool") (.ref C) = some false) (h' : PySem.W.subIn K (.ref C) (.type "bool") = some false) : TyOp K .Mult C "bool" := ⟨⟨(some (.builtin "int.__mul__")), (some (.builtin "int.__rmul__")), fw_bool_mul, rv_bool_mul, .inr ⟨.inr (.inr rfl), .inr rfl⟩⟩, h, h'⟩
theorem fw_NoneType_add : PySem.W.findIn K (.type "NoneType") (PySem.dunder "add") = some none := by kernel_rfl
theorem rv_NoneType_add : PySem.W.findIn K (.type "NoneType") (dunderR "add") = some none := by kernel_rfl
theorem tyOp_NoneType_add (h : PySem.W.subIn K (.type "NoneType") (.ref C) = some false) (h' : PySem.W.subIn K (.ref C) (.type "NoneType") = some false) : TyOp K .Add C "NoneType" := ⟨⟨none, none, fw_NoneType_add, rv_NoneType_add, .inl (by decide +kernel)⟩, h, h'⟩
theorem fw_NoneType_sub : PySem.W.findIn K (.type "NoneType") (PySem.dunder "sub") = some none := by kernel_rfl
theorem rv_NoneType_sub : PySem.W.findIn K (.type "NoneType") (dunderR "sub") = some none := by kernel_rfl
theorem tyOp_NoneType_sub (h : PySem.W.subIn K (.type "NoneType") (.ref C) = some false) (h' : PySem.W.subIn K (.ref C) (.type "NoneType") = some false) : TyOp K .Sub C "NoneType" := ⟨⟨none, none, fw_NoneType_sub, rv_NoneType_sub, .inl (by decide +kernel)⟩, h, h'⟩
theorem fw_NoneType_mul : PySem.W.findIn K (.type "NoneType") (PySem.dunder "mul") = some none := by kernel_rfl
theorem rv_NoneType_mul : PySem.W.findIn K (.type "NoneType") (dunderR "mul") = some none := by kernel_rfl
theorem tyOp_NoneType_mul (h : PySem.W.subIn K (.type "NoneType") (.ref C) = some false) (h' : PySem.W.subIn K (.ref C) (.type "NoneType") = some false) : TyOp K .Mult C "NoneType" := ⟨⟨none, none, fw_NoneType_mul, rv_NoneType_mul, .inl (by decide +kernel)⟩, h, h'⟩
theorem fw_str_add : PySem.W.findIn K (.type "str") (PySem.dunder "add") = some (some (.builtin "str.__add__")) := by kernel_rfl
theorem rv_str_add : PySem.W.findIn K (.type "str") (dunderR "add") = some none := by kernel_rfl
theorem tyOp_str_add (h : PySem.W.subIn K (.type "str") (.ref C) = some false) (h' : PySem.W.subIn K (.ref C) (.type "str") = some false) : TyOp K .Add C "str" := ⟨⟨(some (.builtin "str.__add__")), none, fw_str_add, rv_str_add, .inl (by decide +kernel)⟩, h, h'⟩
theorem fw_str_sub : PySem.W.findIn K (.type "str") (PySem.dunder "sub") = some none := by kernel_rfl
theorem rv_str_sub : PySem.W.findIn K (.type "str") (dunderR "sub") = some none := by kernel_rfl
theorem tyOp_str_sub (h : PySem.W.subIn K (.type "str") (.ref C) = some false) (h' : PySem.W.subIn K (.ref C) (.type "str") = some false) : TyOp K .Sub C "str" := ⟨⟨none, none, fw_str_sub, rv_str_sub, .inl (by decide +kernel)⟩, h, h'⟩
theorem fw_str_mul : PySem.W.findIn K (.type "str") (PySem.dunder "mul") = some (some (.builtin "str.__mul__")) := by kernel_rfl
theorem rv_str_mul : PySem.W.findIn K (.type "str") (dunderR "mul") = some (some (.builtin "str.__rmul__")) := by kernel_rfl
theorem tyOp_str_mul (h : PySem.W.subIn K (.type "str") (.ref C) = some false) (h' : PySem.W.subIn K (.ref C) (.type "str") = some false) : TyOp K .Mult C "str" := ⟨⟨(some (.builtin "str.__mul__")), (some (.builtin "str.__rmul__")), fw_str_mul, rv_str_mul, .inl (by decide +kernel)⟩, h, h'⟩
theorem fw_tuple_add : PySem.W.findIn K (.type "tuple") (PySem.dunder "add") = some (some (.builtin "tuple.__add__")) := by kernel_rfl
theorem rv_tuple_add : PySem.W.findIn K (.type "tuple") (dunderR "add") = some none := by kernel_rfl
theorem tyOp_tuple_add (h : PySem.W.subIn K (.type "tuple") (.ref C) = some false) (h' : PySem.W.subIn K (.ref C) (.type "tuple") = some false) : TyOp K .Add C "tuple" := ⟨⟨(some (.builtin "tuple.__add__")), none, fw_tuple_add, rv_tuple_add, .inl (by decide +kernel)⟩, h, h'⟩
theorem fw_tuple_sub : PySem.W.findIn K (.type "tuple") (PySem.dunder "sub") = some none := by kernel_rfl
theorem rv_tuple_sub : PySem.W.findIn K (.type "tuple") (dunderR "sub") = some none := by kernel_rfl
theorem tyOp_tuple_sub (h : PySem.W.subIn K (.type "tuple") (.ref C) = some false) (h' : PySem.W.subIn K (.ref C) (.type "tuple") = some false) : TyOp K .Sub C "tuple" := ⟨⟨none, none, fw_tuple_sub, rv_tuple_sub, .inl (by decide +kernel)⟩, h, h'⟩
theorem fw_tuple_mul : PySem.W.findIn K (.type "tuple") (PySem.dunder "mul") = some (some (.builtin "tuple.__mul__")) := by kernel_rfl
theorem rv_tuple_mul : PySem.W.findIn K (.type "tuple") (dunderR "mul") = some (some (.builtin "tuple.__rmul__")) := by kernel_rfl
theorem tyOp_tuple_mul (h : PySem.W.subIn K (.type "tuple") (.ref C) = some false) (h' : PySem.W.subIn K (.ref C) (.type "tuple") = some false) : TyOp K .Mult C "tuple" := ⟨⟨(some (.builtin "tuple.__mul__")), (some (.builtin "tuple.__rmul__")), fw_tuple_mul, rv_tuple_mul, .inl (by decide +kernel)⟩, h, h'⟩
theorem fw_list_add : PySem.W.findIn K (.type "list") (PySem.dunder "add") = some (some (.builtin "list.__add__")) := by kernel_rfl
theorem rv_list_add : PySem.W.findIn K (.type "list") (dunderR "add") = some none := by kernel_rfl
theorem tyOp_list_add (h : PySem.W.subIn K (.type "list") (.ref C) = some false) (h' : PySem.W.subIn K (.ref C) (.type "list") = some false) : TyOp K .Add C "list" := ⟨⟨(some (.builtin "list.__add__")), none, fw_list_add, rv_list_add, .inl (by decide +kernel)⟩, h, h'⟩
theorem fw_list_sub : PySem.W.findIn K (.type "list") (PySem.dunder "sub") = some none := by kernel_rfl
theorem rv_list_sub : PySem.W.findIn K (.type "list") (dunderR "sub") = some none := by kernel_rfl
theorem tyOp_list_sub (h : PySem.W.subIn K (.type "list") (.ref C) = some false) (h' : PySem.W.subIn K (.ref C) (.type "list") = some false) : TyOp K .Sub C "list" := ⟨⟨none, none, fw_list_sub, rv_list_sub, .inl (by decide +kernel)⟩, h, h'⟩
theorem fw_list_mul : PySem.W.findIn K (.type "list") (PySem.dunder "mul") = some (some (.builtin "list.__mul__")) := by kernel_rfl
theorem rv_list_mul : PySem.W.findIn K (.type "list") (dunderR "mul") = some (some (.builtin "list.__rmul__")) := by kernel_rfl
theorem tyOp_list_mul (h : PySem.W.subIn K (.type "list") (.ref C) = some false) (h' : PySem.W.subIn K (.ref C) (.type "list") = some false) : TyOp K .Mult C "list" := ⟨⟨(some (.builtin "list.__mul__")), (some (.builtin "list.__rmul__")), fw_list_mul, rv_list_mul, .inl (by decide +kernel)⟩, h, h'⟩
theorem fw_dict_add : PySem.W.findIn K (.type "dict") (PySem.dunder "add") = some none := by kernel_rfl
theorem rv_dict_add : PySem.W.findIn K (.type "dict") (dunderR "add") = some none := by kernel_rfl
theorem tyOp_dict_add (h : PySem.W.subIn K (.type "dict") (.ref C) = some false) (h' : PySem.W.subIn K (.ref C) (.type "dict") = some false) : TyOp K .Add C "dict" := ⟨⟨none, none, fw_dict_add, rv_dict_add, .inl (by decide +kernel)⟩, h, h'⟩
theorem fw_dict_sub : PySem.W.findIn K (.type "dict") (PySem.dunder "sub") = some none := by kernel_rfl
theorem rv_dict_sub : PySem.W.findIn K (.type "dict") (dunderR "sub") = some none := by kernel_rfl
theorem tyOp_dict_sub (h : PySem.W.subIn K (.type "dict") (.ref C) = some false) (h' : PySem.W.subIn K (.ref C) (.type "dict") = some false) : TyOp K .Sub C "dict" := ⟨⟨none, none, fw_dict_sub, rv_dict_sub, .inl (by decide +kernel)⟩, h, h'⟩
theorem fw_dict_mul : PySem.W.findIn K (.type "dict") (PySem.dunder "mul") = some none := by kernel_rfl
theorem rv_dict_mul : PySem.W.findIn K (.type "dict") (dunderR "mul") = some none := by kernel_rfl
theorem tyOp_dict_mul (h : PySem.W.subIn K (.type "dict") (.ref C) = some false) (h' : PySem.W.subIn K (.ref C) (.type "dict") = some false) : TyOp K .Mult C "dict" := ⟨⟨none, none, fw_dict_mul, rv_dict_mul, .inl (by decide +kernel)⟩, h, h'⟩
end
/-- one class alone -/
theorem own1 {α : Type} {P : Nat → α → Prop} {c : Nat} {F : α} (h : P c F) : ∀ c' F', ([(c, F)] : List (Nat × α)).lookup c' = some F' → P c' F' := fun c' F' e => by
  rw [List.lookup_cons] at e
  by_cases q : c' = c
  · subst q; simp at e; subst e; exact h
  · rw [show (c' == c) = false by simpa using q] at e; cases e
end EL

set_option Elab.async false
set_option linter.all false
set_option maxRecDepth 100000
set_option maxHeartbeats 1000000
/-! EL19: a changeable list that is walked stays as it is from then on; parts of the text by their places; bindings. -/
namespace EL
open PySem PySem.Spec PyProof.Rows L2
def iFrz (e : Ev) : Iv := fun ls st => bnd (e ls st) fun v st => match v with
  | .ob r => match st[r]? with
    | some (.lst xs) => some (.ok xs, st.set r .gone)
    | _ => .none
  | _ => .none
section
variable {X : Cx} {T : Tx X.K} {W : WX} {tg e : Expr} {fe : Ev}
theorem ei_frz (he : PE X e (tEv T W fe)) : ESrc X T W tg e (iFrz fe) := ⟨_, pi_list he, fun σ H R ls st Fz A w sr g => by
  refine tEv_q (tEv_seq w sr g) fun x H1 hh => ?_
  obtain ⟨v, F, B, st1, s1, p1, w1, sr1, r1, g1⟩ := hh
  split at g1
  · rename_i r
    obtain ⟨a, ex, hA⟩ := rep_ob r1
    subst ex
    split at g1
    · rename_i xs hs
      obtain ⟨vs, hv, rr⟩ := w1.mo _ a _ hA hs
      obtain ⟨w2, s2⟩ := w1.freeze hA hs rfl hv
      have S2 : SqL X.K (upd F a (.lst vs)) a vs := SqL.of upd_same
      refine ⟨a, rfl, ⟨vs, SqL.of hv⟩, g1 H1 _ B s2 (Ap.refl _) w2 _ ⟨_, YAt vs, ?_, fun H2 s3 => s3.seq S2, fun i H x H2 v hv hy => ?_⟩⟩
      · rw [rr.length]; exact walk_list
      · obtain ⟨e1, e2⟩ := hy
        obtain ⟨y, h1, h2⟩ := (rr.mono s2 (Ap.refl _)).get hv
        rw [e2] at h1; cases h1
        exact .inl ⟨e1, h2⟩
    · exact g1.elim
  · exact g1.elim⟩
end
/-! ### parts of the text -/
def kidE : Expr → Nat → Expr
  | .Call f as ks p, 0 => f
  | .Call f as ks p, i + 1 => as.getD i f
  | .Tuple es k p, i => es.getD i (.Constant .none 0 p)
  | .List es p, i => es.getD i (.Constant .none 0 p)
  | .Compare l _ rs p, 0 => l
  | .Compare l _ rs p, i + 1 => rs.getD i l
  | .BoolOp _ es p, i => es.getD i (.Constant .none 0 p)
  | .UnaryOp _ e p, _ => e
  | .BinOp a _ b p, 0 => a
  | .BinOp a _ b p, _ => b
  | e, _ => e
def atE : Expr → List Nat → Expr
  | e, [] => e
  | e, i :: r => atE (kidE e i) r
def valS : Stmt → Expr
  | .Assign _ e _ => e
  | .Expr e _ => e
  | .Return (some e) _ => e
  | .If e _ _ _ => e
  | s => .Constant .none 0 ⟨0, 0, 0, 0⟩
def lamT : Expr → Arguments × Expr × Scope
  | .Lambda a b s _ => (a, b, s)
  | e => ({ posonlyargs := [], args := [], vararg := none, kwonlyargs := [], kw_defaults := [], kwarg := none, defaults := [] }, e, { kind := .function, names := [], isGenerator := false, isCoroutine := false })
theorem lam_at {k j : Nat} {q : Str} {cells : List (Str × Addr)} {lams : List (Arguments × Expr × Scope)} {p : Arguments} {b : Expr} {sc : Scope} {φ : Addr → Hp → Prop} (h : (lmOf k q cells lams).A (k + j) = some φ) (e : lams[j]? = some (p, b, sc)) : φ = lamP q cells p b sc := by
  rw [lmOf_at e] at h; exact (Option.some.inj h).symm
theorem bindsN {K : PySem.W.Frag} {x qual : Str} {ps : List Str} {params : Arguments} {body : List Stmt} {scope : Scope} {f : Addr} {fd : FuncData} (F : FunD K x qual params body scope [] [] f fd)
    (h : ∀ (kV doc pm : Value) (an : Option Addr) (cdv ct : Value) (us : List Value), us.length = ps.length → bindArgs (PySem.W.fnOf x qual params body scope .none kV doc pm an cdv ct) ⟨us, []⟩ = pure (ps.zip us)) : L2.Binds K fd ps [] := by
  obtain ⟨oc, od, dV, kV, doc, pm, an, cdv, ct, osl, rfl, lk, hcd, hD, hK⟩ := F.ex
  rcases hD with ⟨_, rfl⟩ | ⟨e, _⟩
  · exact L2.Binds.all fun us hl => h kV doc pm an cdv ct us hl
  · exact absurd rfl e
/-- an empty dict, one that never changes -/
theorem ev_dct0 {X : Cx} {T : Tx X.K} {W : WX} {pos : Pos} : PE X (.Dict [] [] pos) (tEv T W (eK (.dct []))) := by
  refine PE.imp pe_dnewK fun σ H Q => ?_
  rintro ⟨ls, st, Fz, A, w, sr, g⟩
  intro p n
  have sm := same_upd (o := .dK []) (w.fn n)
  exact g _ (upd Fz p (.dK [])) A sm (Ap.refl _) (w.new n fun _ => nofun) _ (.dct (.inl upd_same) .nil)
/-- an empty dict, one that may change -/
def eDctM : Ev := fun _ st => some (.ok (.ob st.length), st ++ [.dct []])
theorem ev_dctM {X : Cx} {T : Tx X.K} {W : WX} {pos : Pos} : PE X (.Dict [] [] pos) (tEv T W eDctM) := by
  refine PE.imp pe_dnewK fun σ H Q => ?_
  rintro ⟨ls, st, Fz, A, w, sr, g⟩
  intro p n
  exact g _ Fz (A.snoc p) (Same.refl _) (ap_snoc A p) (w.grow n ⟨[], upd_same, .nil⟩) _ (.ob (ap_last w p))
end EL

set_option Elab.async false
set_option linter.all false
set_option maxRecDepth 100000
set_option maxHeartbeats 1000000
/-! EL20: sum of instances with an own +. -/
namespace EL
open PySem PySem.Spec PyProof.Rows L2
/-- one call deeper, nothing raised -/
abbrev Cx1 (X : Cx) : Cx := { X with A := X.A.in1, xe := fun _ _ => False }
section
variable {X : Cx} {pins : List (Addr × Obj)} {σ : L2.St} {H : Hp} {s : Shared}
theorem Inv.in1 (I : Inv X pins σ H s) : Inv (Cx1 X) pins σ H s :=
  ⟨⟨I.ok.mod, I.ok.kind, I.ok.glob, I.ok.blt, I.ok.above, I.ok.inj, I.ok.has, I.ok.cab, I.ok.hd, I.ok.frames, I.ok.stk, I.ok.exf, I.ok.bs, I.ok.bsz, I.ok.noex, I.ok.exfs, I.ok.funs, I.ok.frf⟩, I.os, I.bare, I.base, I.loc, I.cell, I.free, I.freeC, I.pin, I.hok, I.len⟩
theorem Inv.out1 (ok : X.Ok) (I : Inv (Cx1 X) pins σ H s) : Inv X pins σ H s :=
  ⟨ok, I.os, I.bare, I.base, I.loc, I.cell, I.free, I.freeC, I.pin, I.hok, I.len⟩
end
def sumL (F : LV → LV → Sto → Rz LV) : LV → List LV → Sto → Rz LV
  | t, [], st => some (.ok t, st)
  | t, .ins c fs :: r, st => match F t (.ins c fs) st with
    | some (.ok (.ins c' fs'), st') => sumL F (.ins c' fs') r st'
    | _ => none
  | _, _, _ => none
def fSum (F : LV → LV → Sto → Rz LV) : Mv := fun vs st => match vs with
  | [.lst xs] => sumL F (.int 0) xs st
  | _ => none
/-- the object of the running total -/
def totO (v : Value) (n : Nat) : Obj := { cls := .type "list", dict := none, data := .seq #[v] n, slots := #[] }
abbrev sumR (X : Cx) (pins : List (Addr × Obj)) (σ : L2.St) (Q : VK) : Result → Shared → Prop := fun r s' => match r with
  | .ok (.ret v) => EP X pins σ Q v s'
  | .ok _ => False
  | .error e => X.xe e s'
section
variable {X : Cx} {T : Tx X.K} {pins : List (Addr × Obj)} {σ : L2.St} {G : LV → LV → Sto → Rz LV}
theorem fp_kept {H H' : Hp} {b : Addr} (f : FpOk X pins H b) (n : H' b = none) : FpOk X pins H' b := ⟨n, f.2⟩
theorem sum_step (hc : X.calm = true) (ho : OpV (X := Cx1 X) T W0 (binaryOp .Add) G) {it S a : Addr} (ne : it ≠ S) (Q : VK) : ∀ (rest : List LV) (items : List LV) (xs : List V) (i : Nat) (s : Shared) (H Fz : Hp) (A : Ad) (st : Sto) (t : LV) (tx : V) (tv : Value) (stage : Int) (c : Nat), rest = items.drop i → i ≤ items.length → Inv X pins σ H s → Wd T H Fz A st →
    SqL X.K Fz a xs → Reps T Fz A items xs → s.heap.IsListIter it a i → s.heap.get? S = some (totO tv c) → FpOk X pins H it → FpOk X pins H S → Rep T Fz A t tx → RelV tx tv → ((t = .int 0 ∧ stage = 0) ∨ ((∃ c fs, t = .ins c fs) ∧ stage = 2)) →
    Go T Fz A (okV T Q) (exW W0 σ) (sumL G t rest st) → codeAny (model X.prog X.w) X.A (.builtin "sum.loop" ⟨[.ref it, .ref S, rawInt stage, rawInt 0], []⟩) (sumR X pins σ Q) s
  | [], items, xs, i, s, H, Fz, A, st, t, tx, tv, stage, c, hr, hi, I, w, hS, rr, hit, hst, f1, f2, rt, rv, ht, g => by
    have hlen : items.length ≤ i := by
      have := congrArg List.length hr
      simp at this; omega
    obtain ⟨its, rvs, p, _⟩ := I.list (w.fz.seq hS)
    refine codeAny_builtin F.entry_sum_loop ?_
    rw [Around.under_plainId F.plain_sum_loop _]
    show wpAny _ X.A.in1 (seqItems? (.ref S) >>= _) _ _ s
    refine wpAny_bind (wpAny_seqItems hst rfl ?_)
    show wpAny _ X.A.in1 (tryCatch (pyNext (.ref it)) _ >>= _) _ _ s
    refine wpAny_bind (wpAny_tryCatch (wpAny_pyNext_list_end (I.ok.hd hc) hit p.isList (by simp; rw [← rvs.length, ← rr.length]; exact hlen) fun h' eb => ?_))
    obtain ⟨f10, f11, f12, f13, f14, f15⟩ := f1
    have I2 : Inv X pins σ H { s with heap := h' } := I.turned (t' := s.toks) (fun b o hb e => eb b o hb e) f10 f11 f13 f14 f15
    have fin : EP X pins σ Q tv { s with heap := h' } := ⟨tx, H, I2, rv, g H Fz A (Same.refl _) (Ap.refl _) w tx rt⟩
    rcases ht with ⟨rfl, rfl⟩ | ⟨⟨c', fs', rfl⟩, rfl⟩
    · cases rt
      obtain ⟨tk, rfl⟩ := (show ∃ tk, tv = .int 0 tk from rv)
      exact wpAny_pure fin
    · obtain ⟨ad, rfl⟩ : ∃ ad, tx = .ref ad := by cases rt with | ins h _ _ => exact ⟨_, rfl⟩
      obtain rfl : tv = .ref ad := rv
      exact wpAny_pure fin
  | v :: rest, items, xs, i, s, H, Fz, A, st, t, tx, tv, stage, c, hr, hi, I, w, hS, rr, hit, hst, f1, f2, rt, rv, ht, g => by
    have hlt : i < items.length := by
      have := congrArg List.length hr
      simp at this; omega
    have hv : items[i]? = some v := by
      have := congrArg (·[0]?) hr
      simp at this
      rw [← this]
    have hrest : rest = items.drop (i + 1) := by
      have := congrArg List.tail hr
      simpa [List.tail_drop] using this
    obtain ⟨x, hx, rx⟩ := rr.get hv
    obtain ⟨its, rvs, p, _⟩ := I.list (w.fz.seq hS)
    obtain ⟨u, hu, ru⟩ := rvs.get hx
    refine codeAny_builtin F.entry_sum_loop ?_
    rw [Around.under_plainId F.plain_sum_loop _]
    show wpAny _ X.A.in1 (seqItems? (.ref S) >>= _) _ _ s
    refine wpAny_bind (wpAny_seqItems hst rfl ?_)
    show wpAny _ X.A.in1 (tryCatch (pyNext (.ref it)) _ >>= _) _ _ s
    refine wpAny_bind (wpAny_tryCatch (wpAny_pyNext_list_item hit p.isList (x := u) (by simpa using hu) fun h' hit' sb => ?_))
    obtain ⟨f10, f11, f12, f13, f14, f15⟩ := f1
    have I2 : Inv X pins σ H { s with heap := h' } := I.turned (t' := s.toks) (fun b o hb e => (sb.2 b hb).trans e) f10 f11 f13 f14 f15
    have hst2 : h'.get? S = some (totO tv c) := (sb.2 S (Ne.symm ne)).trans hst
    cases v with
    | ins c0 fs0 =>
      have g : Go T Fz A (okV T Q) (exW W0 σ) (match G t (.ins c0 fs0) st with
        | some (.ok (.ins c' fs'), st') => sumL G (.ins c' fs') rest st'
        | _ => none) := g
      obtain ⟨oI, eI, cI, dI⟩ := id hit'
      have f1' : FpOk (Cx1 X) pins H it := ⟨f10, f11, f12, f13, f14, f15⟩
      have f2' : FpOk (Cx1 X) pins H S := f2
      have I3 : Inv (Cx1 X) (pins ++ pinsAt [it, S] h') σ H { s with heap := h' } := (Inv.in1 I2).pinned (fp := [it, S])
        (fun b hb => by rcases List.mem_cons.mp hb with rfl | hb; exact f1'; rw [List.mem_singleton.mp hb]; exact f2')
        (fun b hb => by
          rcases List.mem_cons.mp hb with rfl | hb
          · exact ⟨oI, eI, fun v z => by rw [dI] at z; cases z⟩
          · rw [List.mem_singleton.mp hb]; exact ⟨_, hst2, fun v z => nomatch z⟩)
      obtain ⟨ua, rfl⟩ : ∃ ua, x = .ref ua := by cases rx with | ins h _ _ => exact ⟨_, rfl⟩
      obtain rfl : u = .ref ua := ru
      let R1 : VK := fun z H1 => ∃ c' fs' F1 B1 st1, Wd T H1 F1 B1 st1 ∧ Same Fz F1 ∧ Ap A B1 ∧ Rep T F1 B1 (.ins c' fs') z ∧ Go T F1 B1 (okV T Q) (exW W0 σ) (sumL G (.ins c' fs') rest st1)
      have plus : wpAny (model X.prog X.w) X.A.in1 (binaryOp .Add tv (.ref ua)) (EP (Cx1 X) (pins ++ pinsAt [it, S] h') σ R1) (fun _ _ => False) { s with heap := h' } := by
        refine ho _ _ σ H Fz A st t _ tx (.ref ua) tv (.ref ua) _ I3 w rv rfl rt rx ?_
        cases e : G t (.ins c0 fs0) st with
        | none => rw [e] at g; exact g.elim
        | some y =>
          rw [e] at g
          obtain ⟨y1, st1⟩ := y
          cases y1 with
          | ex c2 f2 => exact g.elim
          | ok z =>
            cases z with
            | ins c' fs' => exact fun H1 F1 B1 h1 h2 w1 zx rz => ⟨c', fs', F1, B1, _, w1, h1, h2, rz, Go.mono h1 h2 g⟩
            | _ => exact g.elim
      -- what follows the sum of two
      have run : ∀ nx : Value → Int, (∀ a, nx (.ref a) = 2) → wpAny (model X.prog X.w) X.A.in1 (do
          match ← (holding [.ref ua] (binaryOp .Add tv (.ref ua))).attempt with
          | .ok r => do
            updateSeq S fun _ => #[r]
            letGo [tv, .ref ua]
            updateSeq S fun _ => #[r]
            again (.builtin "sum.loop" ⟨[.ref it, .ref S, rawInt (nx r), rawInt 0], []⟩)
          | .error e => do updateSeq S fun _ => #[]; letGo [tv, .ref ua] [e]; throw e) (GQ.FinOf X.prog X.w X.A (sumR X pins σ Q)) (fun e s' => sumR X pins σ Q (.error e) s') { s with heap := h' } := by
        intro nx hnx
        refine wpAny_bind (wpAny_attempt (wpAny_holding (wpAny_mono plus (fun r s2 hq => ?_) fun _ _ z => False.elim z)))
        obtain ⟨z, H1, I4, rz, c', fs', F1, B1, st1, w1, h1, h2, rep, g1⟩ := hq
        have keptI := I4.pin (it, oI) (List.mem_append_right _ (List.mem_append_right _ (mem_pinsAt (by simp) eI)))
        have keptS := I4.pin (S, totO tv c) (List.mem_append_right _ (List.mem_append_right _ (mem_pinsAt (by simp) hst2)))
        have I5 : Inv X pins σ H1 s2 := (Inv.out1 I2.ok I4).unpinned
        have hS2 : s2.heap.get? S = some (totO tv c) := keptS.1
        have fi : FpOk X pins H1 it := ⟨keptI.2.1, f11, f12, f13, f14, f15⟩
        have fs2 : FpOk X pins H1 S := fp_kept f2 keptS.2.1
        refine wpAny_bind (wpAny_updateSeq hS2 rfl (wpAny_bind (wpAny_letGo ?_)))
        have e1 : (s2.heap.update S (Obj.mapSeq fun _ => #[r])).get? S = some (totO r c) := Heap.get?_update_self _ hS2 rfl
        refine wpAny_bind (wpAny_updateSeq (s := { s2 with heap := s2.heap.update S (Obj.mapSeq fun _ => #[r]) }) e1 rfl ?_)
        have keep : ∀ b o, b ≠ S → s2.heap.get? b = some o → ((s2.heap.update S (Obj.mapSeq fun _ => #[r])).update S (Obj.mapSeq fun _ => #[r])).get? b = some o := fun b o hb e =>
          (Heap.get?_update_other _ _ (Ne.symm hb)).trans ((Heap.get?_update_other _ _ (Ne.symm hb)).trans e)
        obtain ⟨f20, f21, f22, f23, f24, f25⟩ := id fs2
        have I6 : Inv X pins σ H1 { s2 with heap := (s2.heap.update S (Obj.mapSeq fun _ => #[r])).update S (Obj.mapSeq fun _ => #[r]) } := I5.turned (t' := s2.toks) keep f20 f21 f23 f24 f25
        obtain ⟨za, rfl⟩ : ∃ za, z = .ref za := by cases rep with | ins h _ _ => exact ⟨_, rfl⟩
        obtain rfl : r = .ref za := rz
        rw [hnx]
        exact wpAny_pure ⟨plainId_quiet F.plain_sum_loop _, sum_step hc ho ne Q rest items xs (i + 1) _ H1 F1 B1 st1 (.ins c' fs') (.ref za) (.ref za) 2 c hrest hlt I6 w1 (h1.seq hS) (rr.mono h1 h2) ⟨oI, keep it oI ne keptI.1, cI, dI⟩ (Heap.get?_update_self _ e1 rfl) fi fs2 rep rfl (.inr ⟨⟨c', fs', rfl⟩, rfl⟩) g1⟩
      rcases ht with ⟨rfl, rfl⟩ | ⟨⟨c', fs', rfl⟩, rfl⟩
      · cases rt
        obtain ⟨tk, rfl⟩ := (show ∃ tk, tv = .int 0 tk from rv)
        exact wpAny_bind (wpAny_rule (run (fun | .float .. => 1 | _ => 2) (fun _ => rfl)))
      · obtain ⟨ad, rfl⟩ : ∃ ad, tx = .ref ad := by cases rt with | ins h _ _ => exact ⟨_, rfl⟩
        obtain rfl : tv = .ref ad := rv
        exact run (fun _ => 2) (fun _ => rfl)
    | _ => exact g.elim
theorem sumL_ok : ∀ {l : List LV} {t : LV} {st : Sto} {c : Nat} {fs : List (Nat × LV)} {st' : Sto}, sumL G t l st ≠ some (.ex c fs, st')
  | [], _, _, _, _, _, h => by cases h
  | v :: r, t, st, c, fs, st', h => by
    cases v with
    | ins c0 fs0 =>
      have h : (match G t (.ins c0 fs0) st with
        | some (.ok (.ins c' fs'), st') => sumL G (.ins c' fs') r st'
        | _ => none) = some (.ex c fs, st') := h
      split at h
      · exact sumL_ok h
      · cases h
    | _ => cases h
theorem cv_sum {W : WX} (hc : X.calm = true) (ho : OpV (X := Cx1 X) T W0 (binaryOp .Add) G) : CallV T W (.builtin "sum") (fSum G) := fun pins s σ H Fz A st vs xs us Q I w rv rp g => by
  unfold fSum at g
  split at g
  · rename_i items
    obtain ⟨x, rfl, rx⟩ := reps_one rp
    cases rx with
    | @lst _ ws a hS rr =>
    obtain rfl : us = [.ref a] := Vals.ref1 rv
    obtain ⟨its, rvs, p, _⟩ := I.list (w.fz.seq hS)
    have g' : Go T Fz A (okV T Q) (exW W0 σ) (sumL G (.int 0) items st) := by
      cases e : sumL G (.int 0) items st with
      | none => rw [e] at g; exact g.elim
      | some y =>
        obtain ⟨y1, st1⟩ := y
        cases y1 with
        | ex c f => exact absurd e sumL_ok
        | ok z => rw [e] at g; exact g
    refine call_function_tree F.kind_sum F.plain_sum F.entry_sum (F.args_sum1 _) ?_
    unfold Builtin.«sum»
    simp only [List.length_cons, List.length_nil]
    rw [if_neg (by decide)]
    refine wpAny_bind (wpAny_of_eq (a := [none]) rfl (wpAny_bind (wpAny_pyIter_list p.isList ?_)))
    refine wpAny_bind (wpAny_mkInt (wpAny_bind (wpAny_pure ?_)))
    have no : ∀ {b : String} {s : Shared} {t : Tok} {R : Bool → Shared → Prop}, isSubtype (.type "int") (.type b) = pure false → R false s → wpAny (model X.prog X.w) X.A.in1 (isInstance (.int 0 t) (.type b)) R X.xe s := fun h q => wpAny_isInstance (T := "int") (b := false) (PySem.typeIs_int _ _ _) h q
    simp only [List.forIn_cons, List.forIn_nil]
    refine wpAny_bind (wpAny_bind (wpAny_bind (no PySem.sub_int_str ?_)))
    simp only [Bool.false_eq_true, if_false]
    refine wpAny_pure (wpAny_bind (wpAny_bind (no PySem.sub_int_bytes ?_)))
    simp only [Bool.false_eq_true, if_false]
    refine wpAny_pure (wpAny_bind (wpAny_bind (no PySem.sub_int_bytearray ?_)))
    simp only [Bool.false_eq_true, if_false]
    refine wpAny_pure (wpAny_pure (wpAny_bind (wpAny_newObj_type ?_)))
    have e1 : (s.heap.push { cls := .type "list_iterator", data := .fields #[.ref a, .int 0 0] }).objs.size = s.heap.objs.size + 1 := Heap.size_push ..
    have ne : s.heap.objs.size ≠ (s.heap.push { cls := .type "list_iterator", data := .fields #[.ref a, .int 0 0] }).objs.size := by rw [e1]; omega
    have keep : ∀ b o, s.heap.get? b = some o → ((s.heap.push { cls := .type "list_iterator", data := .fields #[.ref a, .int 0 0] }).push { cls := .type "list", data := .seq #[.int 0 s.toks] }).get? b = some o := fun b o e => Heap.get?_push_of_some _ (Heap.get?_push_of_some _ e)
    have I2 : Inv X pins σ H { s with heap := (s.heap.push { cls := .type "list_iterator", data := .fields #[.ref a, .int 0 0] }).push { cls := .type "list", data := .seq #[.int 0 s.toks] }, toks := s.toks + 1 } := I.kept keep
    have fI : FpOk X pins H s.heap.objs.size := I.fpOk (Nat.le_refl _) (I.hok.fresh (Nat.le_refl _))
    have fS : FpOk X pins H (s.heap.push { cls := .type "list_iterator", data := .fields #[.ref a, .int 0 0] }).objs.size := I.fpOk (by rw [e1]; omega) (I.hok.fresh (by rw [e1]; omega))
    exact wpAny_pure ⟨plainId_quiet F.plain_sum_loop _, sum_step hc ho ne Q items items ws 0 _ H Fz A st (.int 0) (.int 0) (.int 0 s.toks) 0 0 rfl (Nat.zero_le _) I2 w hS rr ⟨_, Heap.get?_push_of_some _ (Heap.get?_push_size _ rfl), rfl, rfl⟩ (Heap.get?_push_size _ rfl) fI fS (.int 0) ⟨_, rfl⟩ (.inl ⟨rfl, rfl⟩) g'⟩
  · exact g.elim
end
end EL

set_option Elab.async false
set_option linter.all false
set_option maxRecDepth 100000
set_option maxHeartbeats 1000000
/-! EL21: the end of a law: the world at the call, facts by checks. -/
namespace EL
open PySem PySem.Spec PyProof.Rows L2
/-- the start: a list that never changes lies at a -/
theorem wd_start {K : PySem.W.Frag} {T : Tx K} {H : Hp} {a : Addr} {vs : List V} (hS : SqL K H a vs) (tb : LamX.Tabs T.tabs H) (nl : T.lmS = none) : ∃ Fz, Wd T H Fz ⟨[], fun _ => none⟩ [] ∧ SqL K Fz a vs := by
  have mk : ∀ F : Hp, Same F H → (∀ b ps, F b ≠ some (.tbl ps)) → Wd T H F ⟨[], fun _ => none⟩ [] := fun F s n =>
    ⟨s, rfl, fun r a o h => by simp at h, fun r a o h => by simp at h, fun r q a h => by simp at h, fun r a h => by simp at h, tb, n, (fun b o h => nomatch h), (fun ls σ h => by rw [nl] at h; cases h), (fun b o h => nomatch h)⟩
  have one : ∀ o : HO, H a = some o → (∀ ps, o ≠ .tbl ps) → Wd T H (fun b => if b = a then some o else none) ⟨[], fun _ => none⟩ [] ∧ (fun b => if b = a then some o else none) a = some o := fun o h n => by
    refine ⟨mk _ (fun b u e => ?_) fun b ps e => ?_, if_pos rfl⟩
    · by_cases hb : b = a
      · rw [if_pos hb] at e; cases e; rw [hb]; exact h
      · rw [if_neg hb] at e; cases e
    · by_cases hb : b = a
      · rw [if_pos hb] at e; cases e; exact n ps rfl
      · rw [if_neg hb] at e; cases e
  rcases hS with (h | ⟨o, h⟩) | h
  · obtain ⟨w, e⟩ := one _ h fun _ => nofun
    exact ⟨_, w, .inl (.inl e)⟩
  · obtain ⟨w, e⟩ := one _ h fun _ => nofun
    exact ⟨_, w, .inl (.inr ⟨o, e⟩)⟩
  · exact ⟨fun _ => none, mk _ (fun _ _ e => (nomatch e)) (fun _ _ e => (nomatch e)), .inr h⟩
theorem reps_ints {K : PySem.W.Frag} {T : Tx K} {Fz : Hp} {A : Ad} : ∀ ns : List Int, Reps T Fz A (ns.map LV.int) (ns.map V.int)
  | [] => .nil
  | n :: r => .cons (.int n) (reps_ints r)
/-- a law's promise from what its body says -/
theorem law_sp {K : PySem.W.Frag} {T : Tx K} {H : Hp} {a : Addr} {ns : List Int} {M : Mv} {st : Sto} (hS : SqL K H a (ns.map V.int)) (tb : LamX.Tabs T.tabs H) (nl : T.lmS = none) (h : M [.lst (ns.map .int)] [] = some (.ok (.bl true), st)) :
    spM T 1 M [.ref a] H (fun v _ => v = .bl true) (fun _ _ _ => False) := by
  obtain ⟨Fz, w, q⟩ := wd_start hS tb nl
  refine ⟨rfl, [.lst (ns.map .int)], [], Fz, _, w, .cons (.lst q (reps_ints ns)) .nil, ?_⟩
  rw [h]
  intro H' F' B' _ _ _ x r
  cases r; rfl
/-! ### facts by checks -/
theorem chk {l : List Bool} (h : l.all id = true) (i : Nat) {b : Bool} (e : l[i]? = some b) : b = true := List.all_eq_true.mp h b (List.mem_of_getElem? e)
theorem dec {p : Prop} [Decidable p] {l : List Bool} (h : l.all id = true) (i : Nat) (e : l[i]? = some (decide p)) : p := of_decide_eq_true (chk h i e)
/-- the code object of the def at f -/
def codeOf (K : PySem.W.Frag) (f : Addr) : Addr := match K.lookup f with
  | some ⟨_, _, .func fd, _⟩ => (match fd.code with
    | .ref c => c
    | _ => 0)
  | _ => 0
def codeB (K : PySem.W.Frag) (f : Addr) : Bool := match K.lookup f with
  | some ⟨_, _, .func fd, _⟩ => (match fd.code with
    | .ref _ => true
    | _ => false)
  | _ => false
theorem FunC.of {K : PySem.W.Frag} {x qual : Str} {params : Arguments} {body : List Stmt} {scope : Scope} {dvs : List V} {kws : List (Str × V)} {f : Addr} {fd : FuncData} (F : FunD K x qual params body scope dvs kws f fd) (h : codeB K f = true) : FunC K x qual params body scope dvs kws f fd (codeOf K f) := by
  obtain ⟨oc, od, dV, kV, doc, pm, an, cdv, ct, osl, rfl, lk, hcd, hD, hK⟩ := F.ex
  unfold codeB at h
  rw [lk] at h
  cases cdv with
  | ref c =>
    have e : codeOf K f = c := by unfold codeOf; rw [lk]
    rw [e]
    exact ⟨⟨oc, od, dV, kV, doc, pm, an, ct, osl, rfl, lk, hcd, hD, hK⟩, F.kp⟩
  | _ => cases h
/-- an error's class as the text makes it -/
def oexB (K : PySem.W.Frag) (C : Addr) : Bool := (match K.lookup C with
  | some ⟨.type "type", _, .cls cd, sl⟩ => (match cd.mro, sl.toList with
    | .ref C' :: bm, [_, _, _, _, some (.builtin n), _] => C' == C && n == "ValueError.__new__" && !cd.hasDel && cd.hasDict && PySem.HandSPX.refsVE bm
    | _, _ => false)
  | _ => false) && (decide (PySem.W.findIn K (.ref C) "__setattr__" = some (some (.builtin "object.__setattr__"))) && (decide (PySem.W.subIn K (.ref C) (.type "BaseException") = some true) && (decide (PySem.W.typeIn K (.ref C) = some (.type "type")) && PySem.W.keepIn K (.ref C))))
theorem oexB_ok {K : PySem.W.Frag} {C : Addr} (h : oexB K C = true) : OexC K C := by
  unfold oexB at h
  rw [Bool.and_eq_true, Bool.and_eq_true, Bool.and_eq_true, Bool.and_eq_true, decide_eq_true_eq, decide_eq_true_eq, decide_eq_true_eq] at h
  obtain ⟨q, h1, h2, h3, h4⟩ := h
  refine ⟨?_, h1, h2, h3, h4⟩
  split at q
  · rename_i dd cd sl ho
    split at q
    · rename_i C' bm k0 k1 k2 k3 n k5 hm hs
      simp only [Bool.and_eq_true, beq_iff_eq, Bool.not_eq_true'] at q
      obtain ⟨⟨⟨⟨rfl, rfl⟩, hdel⟩, hd⟩, ht⟩ := q
      obtain ⟨nm, bs, mro, ns, qn, hd0, sn, sub, ab, col, del⟩ := cd
      dsimp only at hm hdel hd
      subst hm hdel hd
      have hsl : sl = #[k0, k1, k2, k3, some (.builtin "ValueError.__new__"), k5] := by
        obtain ⟨l⟩ := sl
        simp only at hs
        rw [hs]
      subst hsl
      exact ⟨nm, qn, ns, bs, bm, sn, sub, ab, col, dd, k0, k1, k2, k3, k5, ho, ht⟩
    · cases q
  · cases q
def excB (K : PySem.W.Frag) (D : Addr) : Bool := decide (PySem.W.findIn K (.ref D) "__getattribute__" = some (some (.builtin "BaseException.__getattribute__"))) && (decide (PySem.W.findIn K (.ref D) "__getattr__" = some none) && (decide (PySem.W.subIn K (.ref D) (.type "BaseException") = some true) && (PySem.W.hasDictIn K D &&
  (decide (PySem.W.findIn K (.ref D) "__class__" = some (some (.builtin "object.__class__"))) && (decide (PySem.W.specialIn K (.builtin "object.__class__") "__get__" = some (some (.builtin "getset_descriptor.__get__"))) && (decide (PySem.W.takesIn K (.builtin "object.__class__") = some true) && decide (PySem.W.mroIn K D (.type "object") = some true)))))))
theorem excB_ok {K : PySem.W.Frag} {D : Addr} (h : excB K D = true) : ExcC K D := by
  unfold excB at h
  simp only [Bool.and_eq_true, decide_eq_true_eq] at h
  obtain ⟨h1, h2, h3, h4, h5, h6, h7, h8⟩ := h
  exact ⟨h1, h2, h3, h4, h5, h6, h7, h8⟩
def insB (K : PySem.W.Frag) (C : Addr) : Bool := decide (PySem.W.findIn K (.ref C) "__class__" = some (some (.builtin "object.__class__"))) && (decide (PySem.W.specialIn K (.builtin "object.__class__") "__get__" = some (some (.builtin "getset_descriptor.__get__"))) && (decide (PySem.W.takesIn K (.builtin "object.__class__") = some true) && decide (PySem.W.mroIn K C (.type "object") = some true)))
theorem insB_ok {K : PySem.W.Frag} {C : Addr} (cl : Cls K C) (h : insB K C = true) : InsK K C := by
  unfold insB at h
  simp only [Bool.and_eq_true, decide_eq_true_eq] at h
  obtain ⟨h1, h2, h3, h4⟩ := h
  exact ⟨cl, h1, h2, h3, h4⟩
end EL

set_option Elab.async false
set_option linter.all false
set_option maxRecDepth 100000
set_option maxHeartbeats 1000000
/-! EL22: plain tools: expressions whose answer does not hang on the store; what they make lies behind. -/
namespace EL
open PySem
def Gv (e : Ev) (ls : Ls) (v : LV) : Prop := ∀ st, ∃ es, e ls st = some (.ok v, st ++ es)
def Gt (t : Tv) (ls : Ls) (b : Bool) : Prop := ∀ st, ∃ es, t ls st = some (.ok b, st ++ es)
def Ga (r : Av) (ls : Ls) (vs : List LV) : Prop := ∀ st, ∃ es, r ls st = some (.ok vs, st ++ es)
def G1 (F : LV → Sto → Rz LV) (v r : LV) : Prop := ∀ st, ∃ es, F v st = some (.ok r, st ++ es)
def G2 (F : LV → LV → Sto → Rz LV) (v w r : LV) : Prop := ∀ st, ∃ es, F v w st = some (.ok r, st ++ es)
def Gm (M : Mv) (vs : List LV) (r : LV) : Prop := ∀ st, ∃ es, M vs st = some (.ok r, st ++ es)
def Gk (F : Mv2) (vs zs : List LV) (r : LV) : Prop := ∀ st, ∃ es, F vs zs st = some (.ok r, st ++ es)
section
variable {ls : Ls} {v w r : LV} {a b e : Ev} {t u : Tv} {fr fk : Av} {vs zs : List LV}
theorem bnd_ok {α β : Type} {x : Rz α} {v : α} {st : Sto} {k : α → Sto → Rz β} (h : x = some (.ok v, st)) : bnd x k = k v st := by rw [h]; rfl
theorem stE_ok {α : Type} {x : Rz α} {v : α} {st : Sto} {ls : Ls} {k : α → Sto → Sz} (h : x = some (.ok v, st)) : stE x ls k = k v st := by rw [h]; rfl
theorem Gv.var {i : Nat} (h : ls[i]? = some (some v)) : Gv (eVar i) ls v := fun st => ⟨[], by simp [eVar, h]⟩
theorem Gv.k : Gv (eK v) ls v := fun st => ⟨[], by simp [eK]⟩
theorem Gv.op2 {F : LV → LV → Sto → Rz LV} (ha : Gv a ls v) (hb : Gv b ls w) (h : G2 F v w r) : Gv (eOp2 F a b) ls r := fun st => by
  obtain ⟨e1, h1⟩ := ha st; obtain ⟨e2, h2⟩ := hb (st ++ e1); obtain ⟨e3, h3⟩ := h (st ++ e1 ++ e2)
  refine ⟨e1 ++ e2 ++ e3, ?_⟩
  unfold eOp2
  rw [bnd_ok h1, bnd_ok h2, h3]
  simp only [List.append_assoc]
theorem Gv.op1 {F : LV → Sto → Rz LV} (ha : Gv a ls v) (h : G1 F v r) : Gv (eOp1 F a) ls r := fun st => by
  obtain ⟨e1, h1⟩ := ha st; obtain ⟨e3, h3⟩ := h (st ++ e1)
  refine ⟨e1 ++ e3, ?_⟩
  unfold eOp1
  rw [bnd_ok h1, h3]
  simp only [List.append_assoc]
theorem Ga.nil : Ga aNil ls [] := fun st => ⟨[], by simp [aNil]⟩
theorem Ga.cons (ha : Gv a ls v) (hb : Ga fr ls vs) : Ga (aCons a fr) ls (v :: vs) := fun st => by
  obtain ⟨e1, h1⟩ := ha st; obtain ⟨e2, h2⟩ := hb (st ++ e1)
  refine ⟨e1 ++ e2, ?_⟩
  unfold aCons
  rw [bnd_ok h1, bnd_ok h2]
  simp only [List.append_assoc]
theorem Gv.tup (h : Ga fr ls vs) (hl : vs.length ≤ 1000) : Gv (eTup fr) ls (.tup vs) := fun st => by
  obtain ⟨e1, h1⟩ := h st
  exact ⟨e1, by unfold eTup; rw [bnd_ok h1, if_pos hl]⟩
theorem Gv.lst (h : Ga fr ls vs) (hl : vs.length ≤ 1000) : Gv (eLst fr) ls (.lst vs) := fun st => by
  obtain ⟨e1, h1⟩ := h st
  exact ⟨e1, by unfold eLst; rw [bnd_ok h1, if_pos hl]⟩
theorem Gv.callK {F : Mv2} (h : Ga fr ls vs) (hk : Ga fk ls zs) (hF : Gk F vs zs r) : Gv (eCallK F fr fk) ls r := fun st => by
  obtain ⟨e1, h1⟩ := h st; obtain ⟨e2, h2⟩ := hk (st ++ e1); obtain ⟨e3, h3⟩ := hF (st ++ e1 ++ e2)
  refine ⟨e1 ++ e2 ++ e3, ?_⟩
  unfold eCallK
  rw [bnd_ok h1, bnd_ok h2, h3]
  simp only [List.append_assoc]
theorem Gv.callB {F : Mv} (h : Ga fr ls vs) (hF : Gm F vs r) : Gv (eCallB F fr) ls r := fun st => by
  obtain ⟨e1, h1⟩ := h st; obtain ⟨e3, h3⟩ := hF (st ++ e1)
  refine ⟨e1 ++ e3, ?_⟩
  unfold eCallB
  rw [bnd_ok h1, h3]
  simp only [List.append_assoc]
theorem Gk.via {M : Mv} {ds : List LV} {ss : List Src} (h : Gm M (pick vs ds zs ss) r) : Gk (viaM M ds ss) vs zs r := h
/-- a method of a frozen instance -/
theorem Gv.meth {tb : Nat → Option Mv2} {F : Mv2} {c : Nat} {fs : List (Nat × LV)} (ha : Gv a ls (.ins c fs)) (ht : tb c = some F) (h : Ga fr ls vs) (hk : Ga fk ls zs) (hF : Gk F (.ins c fs :: vs) zs r) : Gv (eMethK tb a fr fk) ls r := fun st => by
  obtain ⟨e0, h0⟩ := ha st; obtain ⟨e1, h1⟩ := h (st ++ e0); obtain ⟨e2, h2⟩ := hk (st ++ e0 ++ e1); obtain ⟨e3, h3⟩ := hF (st ++ e0 ++ e1 ++ e2)
  refine ⟨e0 ++ e1 ++ e2 ++ e3, ?_⟩
  unfold eMethK
  rw [bnd_ok h0]
  simp only [clsOf, ht]
  rw [bnd_ok h1, bnd_ok h2, h3]
  simp only [List.append_assoc]
theorem Gt.val {k : Bool} (h : Gv a ls v) (ht : ∀ st, truL v st = some k) : Gt (tVal a) ls k := fun st => by
  obtain ⟨e1, h1⟩ := h st
  exact ⟨e1, by unfold tVal tru; rw [bnd_ok h1]; simp only [ht]⟩
theorem Gt.bl {k : Bool} (h : Gv a ls (.bl k)) : Gt (tVal a) ls k := Gt.val h fun _ => rfl
theorem Gt.not {k : Bool} (h : Gt t ls k) : Gt (tNt t) ls (!k) := fun st => by
  obtain ⟨e1, h1⟩ := h st
  exact ⟨e1, by unfold tNt; rw [bnd_ok h1]⟩
theorem Gt.notT (h : Gt t ls true) : Gt (tNt t) ls false := h.not
theorem Gt.notF (h : Gt t ls false) : Gt (tNt t) ls true := h.not
theorem Gt.andF (h : Gt t ls false) : Gt (tAn t u) ls false := fun st => by
  obtain ⟨e1, h1⟩ := h st
  exact ⟨e1, by unfold tAn; rw [bnd_ok h1]⟩
theorem Gt.and {k : Bool} (h : Gt t ls true) (h2 : Gt u ls k) : Gt (tAn t u) ls k := fun st => by
  obtain ⟨e1, h1⟩ := h st; obtain ⟨e2, h2⟩ := h2 (st ++ e1)
  exact ⟨e1 ++ e2, by unfold tAn; rw [bnd_ok h1]; simp only [h2, List.append_assoc]⟩
theorem Gt.orT (h : Gt t ls true) : Gt (tO t u) ls true := fun st => by
  obtain ⟨e1, h1⟩ := h st
  exact ⟨e1, by unfold tO; rw [bnd_ok h1]⟩
theorem Gt.or {k : Bool} (h : Gt t ls false) (h2 : Gt u ls k) : Gt (tO t u) ls k := fun st => by
  obtain ⟨e1, h1⟩ := h st; obtain ⟨e2, h2⟩ := h2 (st ++ e1)
  exact ⟨e1 ++ e2, by unfold tO; rw [bnd_ok h1]; simp only [h2, List.append_assoc]⟩
theorem Gv.ifxT (h : Gt t ls true) (h2 : Gv a ls v) : Gv (eIfx t a b) ls v := fun st => by
  obtain ⟨e1, h1⟩ := h st; obtain ⟨e2, h2⟩ := h2 (st ++ e1)
  exact ⟨e1 ++ e2, by unfold eIfx; rw [bnd_ok h1]; simp only [h2, List.append_assoc]⟩
theorem Gv.ifxF (h : Gt t ls false) (h2 : Gv b ls v) : Gv (eIfx t a b) ls v := fun st => by
  obtain ⟨e1, h1⟩ := h st; obtain ⟨e2, h2⟩ := h2 (st ++ e1)
  exact ⟨e1 ++ e2, by unfold eIfx; rw [bnd_ok h1]; simp only [h2, List.append_assoc]⟩
theorem Gt.to {t : Tv} {ls : Ls} {k k' : Bool} (h : Gt t ls k) (e : k = k') : Gt t ls k' := by subst e; exact h
theorem Gv.to {t : Ev} {ls : Ls} {k k' : LV} (h : Gv t ls k) (e : k = k') : Gv t ls k' := by subst e; exact h
/-- an if that is passed by -/
theorem sIf_by {R : Sv} (h : Gt t ls false) (st : Sto) : ∃ es, sIf t R sNil ls st = some (.nx ls, st ++ es) := by
  obtain ⟨e1, h1⟩ := h st
  exact ⟨e1, by unfold sIf; rw [stE_ok h1]; rfl⟩
theorem sSet_by {i : Nat} (h : Gv a ls v) (st : Sto) : ∃ es, sSet i a ls st = some (.nx (ls.set i (some v)), st ++ es) := by
  obtain ⟨e1, h1⟩ := h st
  exact ⟨e1, by unfold sSet; rw [stE_ok h1]⟩
theorem sPar_by {i j : Nat} (h : Ga fr ls [v, w]) (st : Sto) : ∃ es, sPar i j fr ls st = some (.nx ((ls.set i (some v)).set j (some w)), st ++ es) := by
  obtain ⟨e1, h1⟩ := h st
  exact ⟨e1, by unfold sPar; rw [stE_ok h1]⟩
theorem sSeq_nx {p q : Sv} {ls' : Ls} {st st' : Sto} (h : p ls st = some (.nx ls', st')) : sSeq p q ls st = q ls' st' := by unfold sSeq; rw [h]
end
end EL

set_option Elab.async false
set_option linter.all false
set_option maxRecDepth 100000
set_option maxHeartbeats 4000000
namespace K01
open PySem PySem.Spec PyProof.Rows L2 EL
def top (i : Nat) : Stmt := PySem.Challenge.pw_longshares_k01_ratios_reckoned.main.body.getD i (.Pass ⟨0, 0, 0, 0⟩)
abbrev s_is_integer : Stmt := top 3
abbrev N_is_integer : List Str := ["value"]
theorem nd_is_integer : N_is_integer.Nodup := by decide +kernel
theorem sc_is_integer : FnScope N_is_integer ["value"] (defScope s_is_integer) := ⟨rfl, rfl, rfl, by decide +kernel, rfl, by decide +kernel, by decide +kernel⟩
abbrev s_top_of : Stmt := top 9
abbrev N_top_of : List Str := ["value"]
theorem nd_top_of : N_top_of.Nodup := by decide +kernel
theorem sc_top_of : FnScope N_top_of ["value"] (defScope s_top_of) := ⟨rfl, rfl, rfl, by decide +kernel, rfl, by decide +kernel, by decide +kernel⟩
abbrev s_bottom_of : Stmt := top 10
abbrev N_bottom_of : List Str := ["value"]
theorem nd_bottom_of : N_bottom_of.Nodup := by decide +kernel
theorem sc_bottom_of : FnScope N_bottom_of ["value"] (defScope s_bottom_of) := ⟨rfl, rfl, rfl, by decide +kernel, rfl, by decide +kernel, by decide +kernel⟩
abbrev s_Ratio_init : Stmt := inClass (top 11) 0
abbrev N_Ratio_init : List Str := ["self", "top", "bottom", "shared"]
theorem nd_Ratio_init : N_Ratio_init.Nodup := by decide +kernel
theorem sc_Ratio_init : FnScope N_Ratio_init ["self", "top", "bottom"] (defScope s_Ratio_init) := ⟨rfl, rfl, rfl, by decide +kernel, rfl, by decide +kernel, by decide +kernel⟩
abbrev s_Ratio_add : Stmt := inClass (top 11) 2
abbrev N_Ratio_add : List Str := ["self", "other"]
theorem nd_Ratio_add : N_Ratio_add.Nodup := by decide +kernel
theorem sc_Ratio_add : FnScope N_Ratio_add ["self", "other"] (defScope s_Ratio_add) := ⟨rfl, rfl, rfl, by decide +kernel, rfl, by decide +kernel, by decide +kernel⟩
abbrev s_Ratio_radd : Stmt := inClass (top 11) 3
abbrev N_Ratio_radd : List Str := ["self", "other"]
theorem nd_Ratio_radd : N_Ratio_radd.Nodup := by decide +kernel
theorem sc_Ratio_radd : FnScope N_Ratio_radd ["self", "other"] (defScope s_Ratio_radd) := ⟨rfl, rfl, rfl, by decide +kernel, rfl, by decide +kernel, by decide +kernel⟩
abbrev s_Ratio_sub : Stmt := inClass (top 11) 4
abbrev N_Ratio_sub : List Str := ["self", "other"]
theorem nd_Ratio_sub : N_Ratio_sub.Nodup := by decide +kernel
theorem sc_Ratio_sub : FnScope N_Ratio_sub ["self", "other"] (defScope s_Ratio_sub) := ⟨rfl, rfl, rfl, by decide +kernel, rfl, by decide +kernel, by decide +kernel⟩
abbrev s_Ratio_neg : Stmt := inClass (top 11) 8
abbrev N_Ratio_neg : List Str := ["self"]
theorem nd_Ratio_neg : N_Ratio_neg.Nodup := by decide +kernel
theorem sc_Ratio_neg : FnScope N_Ratio_neg ["self"] (defScope s_Ratio_neg) := ⟨rfl, rfl, rfl, by decide +kernel, rfl, by decide +kernel, by decide +kernel⟩
abbrev s_Ratio_rsub : Stmt := inClass (top 11) 5
abbrev N_Ratio_rsub : List Str := ["self", "other"]
theorem nd_Ratio_rsub : N_Ratio_rsub.Nodup := by decide +kernel
theorem sc_Ratio_rsub : FnScope N_Ratio_rsub ["self", "other"] (defScope s_Ratio_rsub) := ⟨rfl, rfl, rfl, by decide +kernel, rfl, by decide +kernel, by decide +kernel⟩
abbrev s_Ratio_mul : Stmt := inClass (top 11) 6
abbrev N_Ratio_mul : List Str := ["self", "other"]
theorem nd_Ratio_mul : N_Ratio_mul.Nodup := by decide +kernel
theorem sc_Ratio_mul : FnScope N_Ratio_mul ["self", "other"] (defScope s_Ratio_mul) := ⟨rfl, rfl, rfl, by decide +kernel, rfl, by decide +kernel, by decide +kernel⟩
abbrev s_Ratio_rmul : Stmt := inClass (top 11) 7
abbrev N_Ratio_rmul : List Str := ["self", "other"]
theorem nd_Ratio_rmul : N_Ratio_rmul.Nodup := by decide +kernel
theorem sc_Ratio_rmul : FnScope N_Ratio_rmul ["self", "other"] (defScope s_Ratio_rmul) := ⟨rfl, rfl, rfl, by decide +kernel, rfl, by decide +kernel, by decide +kernel⟩
abbrev s_Ratio_eq : Stmt := inClass (top 11) 9
abbrev N_Ratio_eq : List Str := ["self", "other"]
theorem nd_Ratio_eq : N_Ratio_eq.Nodup := by decide +kernel
theorem sc_Ratio_eq : FnScope N_Ratio_eq ["self", "other"] (defScope s_Ratio_eq) := ⟨rfl, rfl, rfl, by decide +kernel, rfl, by decide +kernel, by decide +kernel⟩
abbrev s_Ratio_over : Stmt := inClass (top 11) 11
abbrev N_Ratio_over : List Str := ["self", "other"]
theorem nd_Ratio_over : N_Ratio_over.Nodup := by decide +kernel
theorem sc_Ratio_over : FnScope N_Ratio_over ["self", "other"] (defScope s_Ratio_over) := ⟨rfl, rfl, rfl, by decide +kernel, rfl, by decide +kernel, by decide +kernel⟩
abbrev s_Ratio_is_below : Stmt := inClass (top 11) 12
abbrev N_Ratio_is_below : List Str := ["self", "other"]
theorem nd_Ratio_is_below : N_Ratio_is_below.Nodup := by decide +kernel
theorem sc_Ratio_is_below : FnScope N_Ratio_is_below ["self", "other"] (defScope s_Ratio_is_below) := ⟨rfl, rfl, rfl, by decide +kernel, rfl, by decide +kernel, by decide +kernel⟩
abbrev s_Ratio_is_at_most : Stmt := inClass (top 11) 13
abbrev N_Ratio_is_at_most : List Str := ["self", "other"]
theorem nd_Ratio_is_at_most : N_Ratio_is_at_most.Nodup := by decide +kernel
theorem sc_Ratio_is_at_most : FnScope N_Ratio_is_at_most ["self", "other"] (defScope s_Ratio_is_at_most) := ⟨rfl, rfl, rfl, by decide +kernel, rfl, by decide +kernel, by decide +kernel⟩
abbrev s_law_well : Stmt := top 13
abbrev N_law_well : List Str := ["script", "cell"]
theorem nd_law_well : N_law_well.Nodup := by decide +kernel
theorem sc_law_well : FnScope N_law_well ["script"] (defScope s_law_well) := ⟨rfl, rfl, rfl, by decide +kernel, rfl, by decide +kernel, by decide +kernel⟩
abbrev s_law_draw : Stmt := top 14
abbrev N_law_draw : List Str := ["well", "many", "left", "turn", "cell", "mixed"]
theorem nd_law_draw : N_law_draw.Nodup := by decide +kernel
theorem sc_law_draw : FnScope N_law_draw ["well", "many"] (defScope s_law_draw) := ⟨rfl, rfl, rfl, by decide +kernel, rfl, by decide +kernel, by decide +kernel⟩
abbrev s_law_one : Stmt := top 15
abbrev N_law_one : List Str := ["well", "some"]
theorem nd_law_one : N_law_one.Nodup := by decide +kernel
theorem sc_law_one : FnScope N_law_one ["well", "some"] (defScope s_law_one) := ⟨rfl, rfl, rfl, by decide +kernel, rfl, by decide +kernel, by decide +kernel⟩
abbrev s_law_gcd : Stmt := top 16
abbrev N_law_gcd : List Str := ["one", "other"]
theorem nd_law_gcd : N_law_gcd.Nodup := by decide +kernel
theorem sc_law_gcd : FnScope N_law_gcd ["one", "other"] (defScope s_law_gcd) := ⟨rfl, rfl, rfl, by decide +kernel, rfl, by decide +kernel, by decide +kernel⟩
abbrev s_law_lowest : Stmt := top 17
abbrev N_law_lowest : List Str := ["top", "bottom", "shared", "sign"]
theorem nd_law_lowest : N_law_lowest.Nodup := by decide +kernel
theorem sc_law_lowest : FnScope N_law_lowest ["top", "bottom"] (defScope s_law_lowest) := ⟨rfl, rfl, rfl, by decide +kernel, rfl, by decide +kernel, by decide +kernel⟩
abbrev s_law_number : Stmt := top 18
abbrev N_law_number : List Str := ["well", "way"]
theorem nd_law_number : N_law_number.Nodup := by decide +kernel
theorem sc_law_number : FnScope N_law_number ["well"] (defScope s_law_number) := ⟨rfl, rfl, rfl, by decide +kernel, rfl, by decide +kernel, by decide +kernel⟩
abbrev s_law_is : Stmt := top 19
abbrev N_law_is : List Str := ["told", "top", "bottom"]
theorem nd_law_is : N_law_is.Nodup := by decide +kernel
theorem sc_law_is : FnScope N_law_is ["told", "top", "bottom"] (defScope s_law_is) := ⟨rfl, rfl, rfl, by decide +kernel, rfl, by decide +kernel, by decide +kernel⟩
abbrev s_law_heard : Stmt := top 20
abbrev N_law_heard : List Str := ["ask", "heard", "error"]
theorem nd_law_heard : N_law_heard.Nodup := by decide +kernel
theorem sc_law_heard : FnScope N_law_heard ["ask"] (defScope s_law_heard) := ⟨rfl, rfl, rfl, by decide +kernel, rfl, by decide +kernel, by decide +kernel⟩
abbrev s_law_refused_right : Stmt := top 21
abbrev N_law_refused_right : List Str := ["well", "one", "odd", "bad", "calls", "ask", "due"]
theorem nd_law_refused_right : N_law_refused_right.Nodup := by decide +kernel
theorem sc_law_refused_right : FnScope N_law_refused_right ["well", "one"] (defScope s_law_refused_right) := ⟨rfl, rfl, rfl, by decide +kernel, rfl, by decide +kernel, by decide +kernel⟩
abbrev s_law_right : Stmt := top 22
abbrev N_law_right : List Str := ["well", "a", "c", "many", "b", "d", "one", "other", "sign", "gap", "step", "told", "is_so", "total"]
theorem nd_law_right : N_law_right.Nodup := by decide +kernel
theorem sc_law_right : FnScope N_law_right ["well"] (defScope s_law_right) := ⟨rfl, rfl, rfl, by decide +kernel, rfl, by decide +kernel, by decide +kernel⟩
abbrev s_law : Stmt := top 23
abbrev N_law : List Str := ["script", "well", "turn"]
theorem nd_law : N_law.Nodup := by decide +kernel
theorem sc_law : FnScope N_law ["script"] (defScope s_law) := ⟨rfl, rfl, rfl, by decide +kernel, rfl, by decide +kernel, by decide +kernel⟩
abbrev s_BadNumber_init : Stmt := inClass (top 6) 0
theorem sc_BadNumber_init : FnScope ["self", "value"] ["self", "value"] (defScope s_BadNumber_init) := ⟨rfl, rfl, rfl, by decide +kernel, rfl, by decide +kernel, by decide +kernel⟩
abbrev s_BadRatio_init : Stmt := inClass (top 7) 0
theorem sc_BadRatio_init : FnScope ["self", "value"] ["self", "value"] (defScope s_BadRatio_init) := ⟨rfl, rfl, rfl, by decide +kernel, rfl, by decide +kernel, by decide +kernel⟩
/-! ### what the bodies say -/
def muGcd : EL.Ls → Sto → Nat := fun ls _ => match (ls[1]? : Option (Option LV)) with
  | some (some (.int i)) => i.natAbs + 1
  | _ => 0
def tyL : List String := ["int", "bool", "NoneType", "str", "tuple", "list", "dict"]
def okR (c : Nat) : Ty → Bool
  | .c k => c == 0 && k == 0
  | .b n => c == 0 && tyL.contains n
  | .x _ => false
def okB (c : Nat) (n : String) : Bool := okR c (.b n)
def subT : Nat → Option Bool
  | 2 => some true
  | 3 => some true
  | _ => none
def fldL : List (Nat × Nat) := [(0, 0), (0, 1)]
def xfldL : List (Nat × Nat) := [(2, 2), (3, 2)]
def fldT (c f : Nat) : Bool := decide ((c, f) ∈ fldL)
def xfldT (c f : Nat) : Bool := decide ((c, f) ∈ xfldL)
def isiT : Ty → Ty → Option Bool
  | .b "int", .b "int" => some true
  | .b "bool", .b "int" => some true
  | .b "NoneType", .b "int" => some false
  | .b "str", .b "int" => some false
  | .b "tuple", .b "int" => some false
  | .b "list", .b "int" => some false
  | .b "dict", .b "int" => some false
  | .b "int", .b "bool" => some false
  | .b "bool", .b "bool" => some true
  | .b "NoneType", .b "bool" => some false
  | .b "str", .b "bool" => some false
  | .b "tuple", .b "bool" => some false
  | .b "list", .b "bool" => some false
  | .b "dict", .b "bool" => some false
  | .c 0, .c 0 => some true
  | .b "int", .c 0 => some false
  | .b "bool", .c 0 => some false
  | .b "NoneType", .c 0 => some false
  | .b "str", .c 0 => some false
  | .b "tuple", .c 0 => some false
  | .b "list", .c 0 => some false
  | .b "dict", .c 0 => some false
  | .c 0, .b "int" => some false
  | .x 2, .c 2 => some true
  | .x 3, .c 2 => some false
  | .x 2, .c 3 => some false
  | .x 3, .c 3 => some true
  | _, _ => none
def b_is_integer : Sv := sRet (eAn (eIsi isiT (.b "int") (eVar 0)) (eNt (eIsi isiT (.b "bool") (eVar 0))))
def M_is_integer : Mv := runB 1 b_is_integer
def b_top_of : Sv := sSeq (sIf (tVal (eIsi isiT (.c 0) (eVar 0))) (sRet (eOp1 (fieldL 0) (eVar 0))) sNil)
  (sSeq (sIf (tNt (tVal (eCallK (viaM M_is_integer [] [.p 0]) (aCons (eVar 0) aNil) aNil))) (sRaise1 3 2 (eVar 0)) sNil)
  (sRet (eVar 0)))
def M_top_of : Mv := runB 1 b_top_of
def b_bottom_of : Sv := sRet (eIfx (tVal (eIsi isiT (.c 0) (eVar 0))) (eOp1 (fieldL 1) (eVar 0)) (eK (.int 1)))
def M_bottom_of : Mv := runB 1 b_bottom_of
def b_Ratio_init : Sv := sSeq (sIf (tNt (tVal (eCallK (viaM M_is_integer [] [.p 0]) (aCons (eVar 1) aNil) aNil))) (sRaise1 2 2 (eVar 1)) sNil)
  (sSeq (sIf (tO (tNt (tVal (eCallK (viaM M_is_integer [] [.p 0]) (aCons (eVar 2) aNil) aNil))) (tVal (eOp2 oEq (eVar 2) (eK (.int 0))))) (sRaise1 2 2 (eVar 2)) sNil)
  (sSeq (sSet 3 (eIfx (tVal (eOp2 oGt (eVar 2) (eK (.int 0)))) (eCallB fGcd (aCons (eVar 1) (aCons (eVar 2) aNil))) (eOp1 oNeg (eCallB fGcd (aCons (eVar 1) (aCons (eVar 2) aNil))))))
  (sSeq (sSetAttr (fun c => fldT c 0) 0 (eVar 0) (eOp2 oDiv (eVar 1) (eVar 3)))
  (sSetAttr (fun c => fldT c 1) 1 (eVar 0) (eOp2 oDiv (eVar 2) (eVar 3))))))
def M_Ratio_init : Mv := runB 4 b_Ratio_init
def b_Ratio_add : Sv := sRet (eCallK (viaI 0 M_Ratio_init [.int 1] [.p 0, .p 1, .p 2]) (aCons (eOp2 oAdd (eOp2 oMul (eOp1 (fieldL 0) (eVar 0)) (eCallK (viaM M_bottom_of [] [.p 0]) (aCons (eVar 1) aNil) aNil)) (eOp2 oMul (eCallK (viaM M_top_of [] [.p 0]) (aCons (eVar 1) aNil) aNil) (eOp1 (fieldL 1) (eVar 0)))) (aCons (eOp2 oMul (eOp1 (fieldL 1) (eVar 0)) (eCallK (viaM M_bottom_of [] [.p 0]) (aCons (eVar 1) aNil) aNil)) aNil)) aNil)
def M_Ratio_add : Mv := runB 2 b_Ratio_add
def b_Ratio_radd : Sv := sRet (eOp2 (oOwnL okR (tbOf [(0, viaM M_Ratio_add [] [.p 0, .p 1])])) (eVar 0) (eVar 1))
def M_Ratio_radd : Mv := runB 2 b_Ratio_radd
def b_Ratio_sub : Sv := sRet (eCallK (viaI 0 M_Ratio_init [.int 1] [.p 0, .p 1, .p 2]) (aCons (eOp2 oSub (eOp2 oMul (eOp1 (fieldL 0) (eVar 0)) (eCallK (viaM M_bottom_of [] [.p 0]) (aCons (eVar 1) aNil) aNil)) (eOp2 oMul (eCallK (viaM M_top_of [] [.p 0]) (aCons (eVar 1) aNil) aNil) (eOp1 (fieldL 1) (eVar 0)))) (aCons (eOp2 oMul (eOp1 (fieldL 1) (eVar 0)) (eCallK (viaM M_bottom_of [] [.p 0]) (aCons (eVar 1) aNil) aNil)) aNil)) aNil)
def M_Ratio_sub : Mv := runB 2 b_Ratio_sub
def b_Ratio_neg : Sv := sRet (eCallK (viaI 0 M_Ratio_init [.int 1] [.p 0, .p 1, .p 2]) (aCons (eOp1 oNeg (eOp1 (fieldL 0) (eVar 0))) (aCons (eOp1 (fieldL 1) (eVar 0)) aNil)) aNil)
def M_Ratio_neg : Mv := runB 1 b_Ratio_neg
def b_Ratio_rsub : Sv := sRet (eOp1 (oOwn1 (tbOf [(0, viaM M_Ratio_neg [] [.p 0])])) (eOp2 (oOwnL okR (tbOf [(0, viaM M_Ratio_sub [] [.p 0, .p 1])])) (eVar 0) (eVar 1)))
def M_Ratio_rsub : Mv := runB 2 b_Ratio_rsub
def b_Ratio_mul : Sv := sRet (eCallK (viaI 0 M_Ratio_init [.int 1] [.p 0, .p 1, .p 2]) (aCons (eOp2 oMul (eOp1 (fieldL 0) (eVar 0)) (eCallK (viaM M_top_of [] [.p 0]) (aCons (eVar 1) aNil) aNil)) (aCons (eOp2 oMul (eOp1 (fieldL 1) (eVar 0)) (eCallK (viaM M_bottom_of [] [.p 0]) (aCons (eVar 1) aNil) aNil)) aNil)) aNil)
def M_Ratio_mul : Mv := runB 2 b_Ratio_mul
def b_Ratio_rmul : Sv := sRet (eOp2 (oOwnL okR (tbOf [(0, viaM M_Ratio_mul [] [.p 0, .p 1])])) (eVar 0) (eVar 1))
def M_Ratio_rmul : Mv := runB 2 b_Ratio_rmul
def b_Ratio_eq : Sv := sRet (eAn (eIsi isiT (.c 0) (eVar 1)) (eAn (eOp2 oEq (eOp1 (fieldL 0) (eVar 0)) (eOp1 (fieldL 0) (eVar 1))) (eOp2 oEq (eOp1 (fieldL 1) (eVar 0)) (eOp1 (fieldL 1) (eVar 1)))))
def M_Ratio_eq : Mv := runB 2 b_Ratio_eq
def b_Ratio_over : Sv := sSeq (sIf (tVal (eOp2 oEq (eCallK (viaM M_top_of [] [.p 0]) (aCons (eVar 1) aNil) aNil) (eK (.int 0)))) (sRaise1 3 2 (eVar 1)) sNil)
  (sRet (eCallK (viaI 0 M_Ratio_init [.int 1] [.p 0, .p 1, .p 2]) (aCons (eOp2 oMul (eOp1 (fieldL 0) (eVar 0)) (eCallK (viaM M_bottom_of [] [.p 0]) (aCons (eVar 1) aNil) aNil)) (aCons (eOp2 oMul (eOp1 (fieldL 1) (eVar 0)) (eCallK (viaM M_top_of [] [.p 0]) (aCons (eVar 1) aNil) aNil)) aNil)) aNil))
def M_Ratio_over : Mv := runB 2 b_Ratio_over
def b_Ratio_is_below : Sv := sRet (eOp2 oLt (eOp2 oMul (eOp1 (fieldL 0) (eVar 0)) (eCallK (viaM M_bottom_of [] [.p 0]) (aCons (eVar 1) aNil) aNil)) (eOp2 oMul (eCallK (viaM M_top_of [] [.p 0]) (aCons (eVar 1) aNil) aNil) (eOp1 (fieldL 1) (eVar 0))))
def M_Ratio_is_below : Mv := runB 2 b_Ratio_is_below
def b_Ratio_is_at_most : Sv := sRet (eOp2 oLe (eOp2 oMul (eOp1 (fieldL 0) (eVar 0)) (eCallK (viaM M_bottom_of [] [.p 0]) (aCons (eVar 1) aNil) aNil)) (eOp2 oMul (eCallK (viaM M_top_of [] [.p 0]) (aCons (eVar 1) aNil) aNil) (eOp1 (fieldL 1) (eVar 0))))
def M_Ratio_is_at_most : Mv := runB 2 b_Ratio_is_at_most
def b_law_well : Sv := sRet (eLstM (aCons (eComp (iSeq (eSl slL (eVar 0) none (some (eK (.int 63))))) [1] (gN 1) (tTrue) (eCallB fInt (aCons (eVar 1) aNil))) (aCons (eK (.int 0)) (aCons (eK (.int 0)) aNil))))
def M_law_well : Mv := runB 2 b_law_well
def b_law_draw : Sv := sSeq (sIf (tVal (eOp2 oGt (eOp2 ixL (eVar 0) (eK (.int 2))) (eK (.int 0)))) (sSeq (sSet 2 (eCallB fInt (aCons (eOp2 ixL (eVar 0) (eK (.int 2))) aNil)))
  (sSeq (sSetIx (eOp2 oDiv (eVar 2) (eVar 1)) (eVar 0) (eK (.int 2)))
  (sRet (eOp2 oMod (eCallB fInt (aCons (eVar 2) aNil)) (eVar 1))))) sNil)
  (sSeq (sSet 3 (eOp2 ixL (eVar 0) (eK (.int 1))))
  (sSeq (sSetIx (eOp2 oAdd (eVar 3) (eK (.int 1))) (eVar 0) (eK (.int 1)))
  (sSeq (sSet 4 (eOp2 oAdd (eOp2 oMul (eK (.int 43793)) (eVar 3)) (eK (.int 3119))))
  (sSeq (sIf (tVal (eOp2 oNe (eOp2 ixL (eVar 0) (eK (.int 0))) (eLst aNil))) (sSet 4 (eOp2 ixL (eOp2 ixL (eVar 0) (eK (.int 0))) (eOp2 oMod (eCallB fInt (aCons (eVar 3) aNil)) (eCallB fLen (aCons (eOp2 ixL (eVar 0) (eK (.int 0))) aNil))))) sNil)
  (sSeq (sIf (tAn (tVal (eOp2 oLt (eVar 3) (eCallB fLen (aCons (eOp2 ixL (eVar 0) (eK (.int 0))) aNil)))) (tVal (eOp2 oGe (eCallB fAbs (aCons (eVar 4) aNil)) (eOp2 oPow (eK (.int 10)) (eK (.int 18)))))) (sSeq (sSet 2 (eOp2 oAdd (eOp2 oMul (eK (.int 2)) (eOp2 oSub (eCallB fAbs (aCons (eCallB fInt (aCons (eVar 4) aNil)) aNil)) (eOp2 oPow (eK (.int 10)) (eK (.int 18))))) (eCallB fInt (aCons (eOp2 oLt (eVar 4) (eK (.int 0))) aNil))))
  (sSeq (sSetIx (eOp2 oDiv (eVar 2) (eVar 1)) (eVar 0) (eK (.int 2)))
  (sRet (eOp2 oMod (eCallB fInt (aCons (eVar 2) aNil)) (eVar 1))))) sNil)
  (sSeq (sSet 5 (eOp2 oMod (eCallB fInt (aCons (eOp2 oPow (eOp2 oAdd (eOp2 oAdd (eOp2 oMod (eCallB fInt (aCons (eVar 4) aNil)) (eK (.int 2147483587))) (eOp2 oMul (eK (.int 69011)) (eVar 3))) (eK (.int 3119))) (eK (.int 5))) aNil)) (eK (.int 2147483563))))
  (sSeq (sSet 5 (eOp2 oMod (eCallB fInt (aCons (eOp2 oPow (eOp2 oAdd (eOp2 oAdd (eOp2 oMul (eVar 5) (eOp2 oAdd (eOp2 oMul (eK (.int 2)) (eVar 3)) (eK (.int 467)))) (eOp2 oMul (eOp2 oMul (eK (.int 43793)) (eVar 3)) (eVar 3))) (eK (.int 69011))) (eK (.int 3))) aNil)) (eK (.int 2147483549))))
  (sRet (eOp2 oMod (eCallB fInt (aCons (eOp2 oDiv (eVar 5) (eK (.int 64))) aNil)) (eVar 1))))))))))
def M_law_draw : Mv := runB 6 b_law_draw
def b_law_one : Sv := sRet (eOp2 ixL (eVar 1) (eCallK (viaM M_law_draw [] [.p 0, .p 1]) (aCons (eVar 0) (aCons (eCallB fLen (aCons (eVar 1) aNil)) aNil)) aNil))
def M_law_one : Mv := runB 2 b_law_one
def b_law_gcd : Sv := sSeq (sPar 0 1 (aCons (eCallB fAbs (aCons (eCallB fInt (aCons (eVar 0) aNil)) aNil)) (aCons (eCallB fAbs (aCons (eCallB fInt (aCons (eVar 1) aNil)) aNil)) aNil)))
  (sSeq (sWhile muGcd (tVal (eOp2 oNe (eVar 1) (eK (.int 0)))) (sPar 0 1 (aCons (eVar 1) (aCons (eOp2 oMod (eCallB fInt (aCons (eVar 0) aNil)) (eVar 1)) aNil))))
  (sRet (eVar 0)))
def M_law_gcd : Mv := runB 2 b_law_gcd
def b_law_lowest : Sv := sSeq (sSet 2 (eCallK (viaM M_law_gcd [] [.p 0, .p 1]) (aCons (eVar 0) (aCons (eVar 1) aNil)) aNil))
  (sSeq (sSet 3 (eIfx (tVal (eOp2 oGt (eVar 1) (eK (.int 0)))) (eK (.int 1)) (eOp1 oNeg (eK (.int 1)))))
  (sRet (eTup (aCons (eOp2 oDiv (eOp2 oMul (eVar 3) (eVar 0)) (eVar 2)) (aCons (eOp2 oDiv (eOp2 oMul (eVar 3) (eVar 1)) (eVar 2)) aNil)))))
def M_law_lowest : Mv := runB 4 b_law_lowest
def b_law_number : Sv := sSeq (sSet 1 (eCallK (viaM M_law_draw [] [.p 0, .p 1]) (aCons (eVar 0) (aCons (eK (.int 6)) aNil)) aNil))
  (sRet (eIfx (tVal (eOp2 oGt (eVar 1) (eK (.int 0)))) (eOp2 oSub (eCallK (viaM M_law_draw [] [.p 0, .p 1]) (aCons (eVar 0) (aCons (eK (.int 13)) aNil)) aNil) (eK (.int 6))) (eOp2 oAdd (eOp2 oSub (eCallK (viaM M_law_draw [] [.p 0, .p 1]) (aCons (eVar 0) (aCons (eOp2 oSub (eOp2 oMul (eK (.int 2)) (eOp2 oPow (eK (.int 10)) (eK (.int 30)))) (eK (.int 1))) aNil)) aNil) (eOp2 oPow (eK (.int 10)) (eK (.int 30)))) (eK (.int 1)))))
def M_law_number : Mv := runB 2 b_law_number
def b_law_is : Sv := sSeq (sIf (tO (tNt (tVal (eIsi isiT (.c 0) (eVar 0)))) (tO (tNt (tVal (eIsi isiT (.b "int") (eOp1 (fieldL 0) (eVar 0))))) (tNt (tVal (eIsi isiT (.b "int") (eOp1 (fieldL 1) (eVar 0))))))) (sRet (eK (.bl false))) sNil)
  (sRet (eOp2 oEq (eTup (aCons (eOp1 (fieldL 0) (eVar 0)) (aCons (eOp1 (fieldL 1) (eVar 0)) aNil))) (eCallK (viaM M_law_lowest [] [.p 0, .p 1]) (aCons (eVar 1) (aCons (eVar 2) aNil)) aNil)))
def M_law_is : Mv := runB 3 b_law_is
def b_law_heard (L : Nat → Sto → Rz LV) : Sv := sSeq (sSet 1 (eK .non))
  (sSeq (sTry subT 2 (sDo (eAct 0 L)) (sSeq (sSet 1 (eTup (aCons (eK (.str "other")) (aCons (eK .non) aNil))))
  (sIf (tVal (eIsi isiT (.c 2) (eVar 2))) (sSet 1 (eTup (aCons (eK (.str "number")) (aCons (eOp1 (fieldL 2) (eVar 2)) aNil)))) (sIf (tVal (eIsi isiT (.c 3) (eVar 2))) (sSet 1 (eTup (aCons (eK (.str "ratio")) (aCons (eOp1 (fieldL 2) (eVar 2)) aNil)))) sNil))))
  (sRet (eVar 1)))
def f_law_refused_right_0 : Ev := eCallK (viaI 0 M_Ratio_init [.int 1] [.p 0, .p 1, .p 2]) (aCons (eVar 3) (aCons (eVar 3) aNil)) aNil
def f_law_refused_right_1 : Ev := eCallK (viaI 0 M_Ratio_init [.int 1] [.p 0, .p 1, .p 2]) (aCons (eK (.int 3)) (aCons (eVar 3) aNil)) aNil
def f_law_refused_right_2 : Ev := eCallK (viaI 0 M_Ratio_init [.int 1] [.p 0, .k 1, .k 0]) aNil (aCons (eK (.int 0)) (aCons (eK (.int 3)) aNil))
def f_law_refused_right_3 : Ev := eOp2 (oOwnL okR (tbOf [(0, viaM M_Ratio_add [] [.p 0, .p 1])])) (eVar 1) (eVar 2)
def f_law_refused_right_4 : Ev := eOp2 (oOwnR okB (tbOf [(0, viaM M_Ratio_radd [] [.p 0, .p 1])])) (eVar 2) (eVar 1)
def f_law_refused_right_5 : Ev := eOp2 (oOwnR okB (tbOf [(0, viaM M_Ratio_rsub [] [.p 0, .p 1])])) (eVar 2) (eVar 1)
def f_law_refused_right_6 : Ev := eOp2 (oOwnR okB (tbOf [(0, viaM M_Ratio_rmul [] [.p 0, .p 1])])) (eVar 2) (eVar 1)
def f_law_refused_right_7 : Ev := eOp2 (oOwnL okR (tbOf [(0, viaM M_Ratio_sub [] [.p 0, .p 1])])) (eVar 1) (eVar 2)
def f_law_refused_right_8 : Ev := eOp2 (oOwnL okR (tbOf [(0, viaM M_Ratio_mul [] [.p 0, .p 1])])) (eVar 1) (eVar 2)
def f_law_refused_right_9 : Ev := eMethK (tbOf [(0, viaM M_Ratio_over [] [.p 0, .p 1])]) (eVar 1) (aCons (eVar 2) aNil) aNil
def f_law_refused_right_10 : Ev := eMethK (tbOf [(0, viaM M_Ratio_over [] [.p 0, .p 1])]) (eVar 1) (aCons (eK (.int 0)) aNil) aNil
def f_law_refused_right_11 : Ev := eMethK (tbOf [(0, viaM M_Ratio_is_below [] [.p 0, .p 1])]) (eVar 1) (aCons (eVar 2) aNil) aNil
def f_law_refused_right_12 : Ev := eMethK (tbOf [(0, viaM M_Ratio_is_at_most [] [.p 0, .k 0])]) (eVar 1) aNil (aCons (eVar 2) aNil)
def f_law_refused_right_13 : Ev := eCallK (viaI 0 M_Ratio_init [.int 1] [.p 0, .p 1, .d 0]) (aCons (eK (.int 1)) aNil) aNil
def fbs_law_refused_right : List Ev := [f_law_refused_right_0, f_law_refused_right_1, f_law_refused_right_2, f_law_refused_right_3, f_law_refused_right_4, f_law_refused_right_5, f_law_refused_right_6, f_law_refused_right_7, f_law_refused_right_8, f_law_refused_right_9, f_law_refused_right_10, f_law_refused_right_11, f_law_refused_right_12, f_law_refused_right_13]
def lams_law_refused_right : List (Arguments × Expr × Scope) := [lamT (atE (valS ((defBody s_law_refused_right).getD 1 (.Pass ⟨0, 0, 0, 0⟩))) [0, 0]), lamT (atE (valS ((defBody s_law_refused_right).getD 2 (.Pass ⟨0, 0, 0, 0⟩))) [1, 0]), lamT (atE (valS ((defBody s_law_refused_right).getD 3 (.Pass ⟨0, 0, 0, 0⟩))) [1, 0]), lamT (atE (valS ((defBody s_law_refused_right).getD 4 (.Pass ⟨0, 0, 0, 0⟩))) [1, 0]), lamT (atE (valS ((defBody s_law_refused_right).getD 5 (.Pass ⟨0, 0, 0, 0⟩))) [1, 0]), lamT (atE (valS ((defBody s_law_refused_right).getD 6 (.Pass ⟨0, 0, 0, 0⟩))) [1, 0]), lamT (atE (valS ((defBody s_law_refused_right).getD 7 (.Pass ⟨0, 0, 0, 0⟩))) [1, 0]), lamT (atE (valS ((defBody s_law_refused_right).getD 8 (.Pass ⟨0, 0, 0, 0⟩))) [1, 0]), lamT (atE (valS ((defBody s_law_refused_right).getD 9 (.Pass ⟨0, 0, 0, 0⟩))) [1, 0]), lamT (atE (valS ((defBody s_law_refused_right).getD 10 (.Pass ⟨0, 0, 0, 0⟩))) [1, 0]), lamT (atE (valS ((defBody s_law_refused_right).getD 11 (.Pass ⟨0, 0, 0, 0⟩))) [1, 0]), lamT (atE (valS ((defBody s_law_refused_right).getD 12 (.Pass ⟨0, 0, 0, 0⟩))) [1, 0]), lamT (atE (valS ((defBody s_law_refused_right).getD 13 (.Pass ⟨0, 0, 0, 0⟩))) [1, 0]), lamT (atE (valS ((defBody s_law_refused_right).getD 14 (.Pass ⟨0, 0, 0, 0⟩))) [1, 0])]
def b_law_refused_right (k : Nat) : Sv := sSeq (sAsg (eTup (aCons (eCallK (viaM M_law_one [] [.p 0, .p 1]) (aCons (eVar 0) (aCons (eLst (aCons (eK .non) (aCons (eK (.str "1/2")) (aCons (eTup (aCons (eK (.int 1)) (aCons (eK (.int 2)) aNil))) (aCons (eLst (aCons (eK (.int 1)) aNil)) (aCons (eK (.bl true)) (aCons (eK (.bl false)) (aCons eDctM aNil)))))))) aNil)) aNil) (aCons (eCallK (viaM M_law_one [] [.p 0, .p 1]) (aCons (eVar 0) (aCons (eLst (aCons (eK .non) (aCons (eK (.str "3")) (aCons (eTup (aCons (eK (.int 1)) aNil)) (aCons (eK (.bl true)) (aCons (eK (.bl false)) (aCons (eLst (aCons (eK (.int 2)) aNil)) aNil))))))) aNil)) aNil) aNil))) (gT 2 (gsC (gN 2) (gsC (gN 3) gsN))))
  (sSeq (sSet 4 (eLstM (aCons (eTup (aCons (eK (.lam (k + 0))) (aCons (eTup (aCons (eK (.str "number")) (aCons (eVar 3) aNil))) aNil))) aNil)))
  (sSeq (sDo (eApp (eVar 4) (eTup (aCons (eK (.lam (k + 1))) (aCons (eTup (aCons (eK (.str "number")) (aCons (eVar 3) aNil))) aNil)))))
  (sSeq (sDo (eApp (eVar 4) (eTup (aCons (eK (.lam (k + 2))) (aCons (eTup (aCons (eK (.str "number")) (aCons (eK (.int 0)) aNil))) aNil)))))
  (sSeq (sDo (eApp (eVar 4) (eTup (aCons (eK (.lam (k + 3))) (aCons (eTup (aCons (eK (.str "ratio")) (aCons (eVar 2) aNil))) aNil)))))
  (sSeq (sDo (eApp (eVar 4) (eTup (aCons (eK (.lam (k + 4))) (aCons (eTup (aCons (eK (.str "ratio")) (aCons (eVar 2) aNil))) aNil)))))
  (sSeq (sDo (eApp (eVar 4) (eTup (aCons (eK (.lam (k + 5))) (aCons (eTup (aCons (eK (.str "ratio")) (aCons (eVar 2) aNil))) aNil)))))
  (sSeq (sDo (eApp (eVar 4) (eTup (aCons (eK (.lam (k + 6))) (aCons (eTup (aCons (eK (.str "ratio")) (aCons (eVar 2) aNil))) aNil)))))
  (sSeq (sDo (eApp (eVar 4) (eTup (aCons (eK (.lam (k + 7))) (aCons (eTup (aCons (eK (.str "ratio")) (aCons (eVar 2) aNil))) aNil)))))
  (sSeq (sDo (eApp (eVar 4) (eTup (aCons (eK (.lam (k + 8))) (aCons (eTup (aCons (eK (.str "ratio")) (aCons (eVar 2) aNil))) aNil)))))
  (sSeq (sDo (eApp (eVar 4) (eTup (aCons (eK (.lam (k + 9))) (aCons (eTup (aCons (eK (.str "ratio")) (aCons (eVar 2) aNil))) aNil)))))
  (sSeq (sDo (eApp (eVar 4) (eTup (aCons (eK (.lam (k + 10))) (aCons (eTup (aCons (eK (.str "ratio")) (aCons (eK (.int 0)) aNil))) aNil)))))
  (sSeq (sDo (eApp (eVar 4) (eTup (aCons (eK (.lam (k + 11))) (aCons (eTup (aCons (eK (.str "ratio")) (aCons (eVar 2) aNil))) aNil)))))
  (sSeq (sDo (eApp (eVar 4) (eTup (aCons (eK (.lam (k + 12))) (aCons (eTup (aCons (eK (.str "ratio")) (aCons (eVar 2) aNil))) aNil)))))
  (sSeq (sDo (eApp (eVar 4) (eTup (aCons (eK (.lam (k + 13))) (aCons (eK .non) aNil)))))
  (sRet (eOp2 oEq ((fun ls => eComp (iFrz (eVar 4)) [5, 6] (gT 2 (gsC (gN 5) (gsC (gN 6) gsN))) (tVal (eOp2 oNe (eCallA N_law_heard.length b_law_heard (fun _ => lamA k fbs_law_refused_right ls) [] [.p 0] (aCons (eVar 5) aNil)) (eVar 6))) (eVar 6) ls)) (eLst aNil)))))))))))))))))
def M_law_refused_right : Mv := runLM 7 b_law_refused_right
def b_law_right : Sv := sSeq (sPar3 1 2 3 (aCons (eCallK (viaM M_law_number [] [.p 0]) (aCons (eVar 0) aNil) aNil) (aCons (eCallK (viaM M_law_number [] [.p 0]) (aCons (eVar 0) aNil) aNil) (aCons (eCallK (viaM M_law_number [] [.p 0]) (aCons (eVar 0) aNil) aNil) aNil))))
  (sSeq (sPar 4 5 (aCons (eCallK (viaM M_law_number [] [.p 0]) (aCons (eVar 0) aNil) aNil) (aCons (eCallK (viaM M_law_number [] [.p 0]) (aCons (eVar 0) aNil) aNil) aNil)))
  (sSeq (sPar 4 5 (aCons (eIfx (tVal (eOp2 oNe (eVar 4) (eK (.int 0)))) (eVar 4) (eK (.int 1))) (aCons (eIfx (tVal (eOp2 oNe (eVar 5) (eK (.int 0)))) (eVar 5) (eOp1 oNeg (eK (.int 1)))) aNil)))
  (sSeq (sPar 6 7 (aCons (eCallK (viaI 0 M_Ratio_init [.int 1] [.p 0, .p 1, .p 2]) (aCons (eVar 1) (aCons (eVar 4) aNil)) aNil) (aCons (eCallK (viaI 0 M_Ratio_init [.int 1] [.p 0, .k 1, .k 0]) aNil (aCons (eVar 5) (aCons (eVar 2) aNil))) aNil)))
  (sSeq (sIf (tO (tNt (tVal (eCallK (viaM M_law_is [] [.p 0, .p 1, .p 2]) (aCons (eVar 6) (aCons (eVar 1) (aCons (eVar 4) aNil))) aNil))) (tO (tNt (tVal (eCallK (viaM M_law_is [] [.p 0, .p 1, .p 2]) (aCons (eCallK (viaI 0 M_Ratio_init [.int 1] [.p 0, .p 1, .d 0]) (aCons (eVar 3) aNil) aNil) (aCons (eVar 3) (aCons (eK (.int 1)) aNil))) aNil))) (tNt (tVal (eCallK (viaM M_law_is [] [.p 0, .p 1, .p 2]) (aCons (eOp1 (oOwn1 (tbOf [(0, viaM M_Ratio_neg [] [.p 0])])) (eVar 6)) (aCons (eOp1 oNeg (eVar 1)) (aCons (eVar 4) aNil))) aNil))))) (sRet (eK (.bl false))) sNil)
  (sSeq (sIf (tO (tNt (tVal (eCallK (viaM M_law_is [] [.p 0, .p 1, .p 2]) (aCons (eOp2 (oOwnL okR (tbOf [(0, viaM M_Ratio_add [] [.p 0, .p 1])])) (eVar 6) (eVar 7)) (aCons (eOp2 oAdd (eOp2 oMul (eVar 1) (eVar 5)) (eOp2 oMul (eVar 2) (eVar 4))) (aCons (eOp2 oMul (eVar 4) (eVar 5)) aNil))) aNil))) (tO (tNt (tVal (eCallK (viaM M_law_is [] [.p 0, .p 1, .p 2]) (aCons (eOp2 (oOwnL okR (tbOf [(0, viaM M_Ratio_sub [] [.p 0, .p 1])])) (eVar 6) (eVar 7)) (aCons (eOp2 oSub (eOp2 oMul (eVar 1) (eVar 5)) (eOp2 oMul (eVar 2) (eVar 4))) (aCons (eOp2 oMul (eVar 4) (eVar 5)) aNil))) aNil))) (tNt (tVal (eCallK (viaM M_law_is [] [.p 0, .p 1, .p 2]) (aCons (eOp2 (oOwnL okR (tbOf [(0, viaM M_Ratio_mul [] [.p 0, .p 1])])) (eVar 6) (eVar 7)) (aCons (eOp2 oMul (eVar 1) (eVar 2)) (aCons (eOp2 oMul (eVar 4) (eVar 5)) aNil))) aNil))))) (sRet (eK (.bl false))) sNil)
  (sSeq (sIf (tO (tNt (tVal (eCallK (viaM M_law_is [] [.p 0, .p 1, .p 2]) (aCons (eOp2 (oOwnL okR (tbOf [(0, viaM M_Ratio_add [] [.p 0, .p 1])])) (eVar 6) (eVar 3)) (aCons (eOp2 oAdd (eVar 1) (eOp2 oMul (eVar 3) (eVar 4))) (aCons (eVar 4) aNil))) aNil))) (tO (tNt (tVal (eCallK (viaM M_law_is [] [.p 0, .p 1, .p 2]) (aCons (eOp2 (oOwnR okB (tbOf [(0, viaM M_Ratio_radd [] [.p 0, .p 1])])) (eVar 3) (eVar 6)) (aCons (eOp2 oAdd (eVar 1) (eOp2 oMul (eVar 3) (eVar 4))) (aCons (eVar 4) aNil))) aNil))) (tNt (tVal (eCallK (viaM M_law_is [] [.p 0, .p 1, .p 2]) (aCons (eOp2 (oOwnL okR (tbOf [(0, viaM M_Ratio_sub [] [.p 0, .p 1])])) (eVar 6) (eVar 3)) (aCons (eOp2 oSub (eVar 1) (eOp2 oMul (eVar 3) (eVar 4))) (aCons (eVar 4) aNil))) aNil))))) (sRet (eK (.bl false))) sNil)
  (sSeq (sIf (tO (tNt (tVal (eCallK (viaM M_law_is [] [.p 0, .p 1, .p 2]) (aCons (eOp2 (oOwnR okB (tbOf [(0, viaM M_Ratio_rsub [] [.p 0, .p 1])])) (eVar 3) (eVar 6)) (aCons (eOp2 oSub (eOp2 oMul (eVar 3) (eVar 4)) (eVar 1)) (aCons (eVar 4) aNil))) aNil))) (tO (tNt (tVal (eCallK (viaM M_law_is [] [.p 0, .p 1, .p 2]) (aCons (eOp2 (oOwnR okB (tbOf [(0, viaM M_Ratio_rmul [] [.p 0, .p 1])])) (eVar 3) (eVar 6)) (aCons (eOp2 oMul (eVar 3) (eVar 1)) (aCons (eVar 4) aNil))) aNil))) (tNt (tVal (eCallK (viaM M_law_is [] [.p 0, .p 1, .p 2]) (aCons (eOp2 (oOwnL okR (tbOf [(0, viaM M_Ratio_mul [] [.p 0, .p 1])])) (eVar 6) (eVar 3)) (aCons (eOp2 oMul (eVar 3) (eVar 1)) (aCons (eVar 4) aNil))) aNil))))) (sRet (eK (.bl false))) sNil)
  (sSeq (sIf (tO (tAn (tVal (eOp2 oNe (eVar 2) (eK (.int 0)))) (tNt (tVal (eCallK (viaM M_law_is [] [.p 0, .p 1, .p 2]) (aCons (eMethK (tbOf [(0, viaM M_Ratio_over [] [.p 0, .p 1])]) (eVar 6) (aCons (eVar 7) aNil) aNil) (aCons (eOp2 oMul (eVar 1) (eVar 5)) (aCons (eOp2 oMul (eVar 4) (eVar 2)) aNil))) aNil)))) (tAn (tVal (eOp2 oNe (eVar 3) (eK (.int 0)))) (tNt (tVal (eCallK (viaM M_law_is [] [.p 0, .p 1, .p 2]) (aCons (eMethK (tbOf [(0, viaM M_Ratio_over [] [.p 0, .p 1])]) (eVar 6) (aCons (eVar 3) aNil) aNil) (aCons (eVar 1) (aCons (eOp2 oMul (eVar 4) (eVar 3)) aNil))) aNil))))) (sRet (eK (.bl false))) sNil)
  (sSeq (sSet 8 (eIfx (tVal (eOp2 oGt (eOp2 oMul (eVar 4) (eVar 5)) (eK (.int 0)))) (eK (.int 1)) (eOp1 oNeg (eK (.int 1)))))
  (sSeq (sPar 9 10 (aCons (eOp2 oMul (eVar 8) (eOp2 oSub (eOp2 oMul (eVar 1) (eVar 5)) (eOp2 oMul (eVar 2) (eVar 4)))) (aCons (eIfx (tVal (eOp2 oGt (eVar 4) (eK (.int 0)))) (eOp2 oSub (eVar 1) (eOp2 oMul (eVar 3) (eVar 4))) (eOp2 oSub (eOp2 oMul (eVar 3) (eVar 4)) (eVar 1))) aNil)))
  (sSeq (sSet 11 (eLst (aCons (eMethK (tbOf [(0, viaM M_Ratio_is_below [] [.p 0, .p 1])]) (eVar 6) (aCons (eVar 7) aNil) aNil) (aCons (eMethK (tbOf [(0, viaM M_Ratio_is_at_most [] [.p 0, .p 1])]) (eVar 6) (aCons (eVar 7) aNil) aNil) (aCons (eMethK (tbOf [(0, viaM M_Ratio_is_below [] [.p 0, .p 1])]) (eVar 6) (aCons (eVar 3) aNil) aNil) (aCons (eMethK (tbOf [(0, viaM M_Ratio_is_at_most [] [.p 0, .p 1])]) (eVar 6) (aCons (eVar 3) aNil) aNil) aNil))))))
  (sSeq (sIf (tO (tVal (eOp2 oNe (eVar 11) (eLst (aCons (eOp2 oLt (eVar 9) (eK (.int 0))) (aCons (eOp2 oLe (eVar 9) (eK (.int 0))) (aCons (eOp2 oLt (eVar 10) (eK (.int 0))) (aCons (eOp2 oLe (eVar 10) (eK (.int 0))) aNil))))))) (tVal (eOp2 oNe (eComp (iSeq (eVar 11)) [12] (gN 12) (tAn (tVal (eOp2 (oIs false) (eVar 12) (eK (.bl true)))) (tVal (eOp2 (oIs false) (eVar 12) (eK (.bl false))))) (eVar 12)) (eLst aNil)))) (sRet (eK (.bl false))) sNil)
  (sSeq (sIf (tO (tVal (eOp2 oNe (eOp2 (oOwnL okR (tbOf [(0, viaM M_Ratio_eq [] [.p 0, .p 1])])) (eVar 6) (eVar 7)) (eOp2 oEq (eVar 9) (eK (.int 0))))) (tO (tVal (eOp2 oNe (eOp2 (oOwnNe okR (fun c => ([(0, M_Ratio_eq)] : List (Nat × Mv)).lookup c)) (eVar 6) (eVar 7)) (eOp2 oNe (eVar 9) (eK (.int 0))))) (tO (tVal (eOp2 (oOwnL okR (tbOf [(0, viaM M_Ratio_eq [] [.p 0, .p 1])])) (eVar 6) (eVar 3))) (tVal (eOp2 (oOwnL okR (tbOf [(0, viaM M_Ratio_eq [] [.p 0, .p 1])])) (eVar 6) (eTup (aCons (eOp1 (fieldL 0) (eVar 6)) (aCons (eOp1 (fieldL 1) (eVar 6)) aNil)))))))) (sRet (eK (.bl false))) sNil)
  (sSeq (sSet 13 (eCallB (fSum (orO (oOwnL okR (tbOf [(0, viaM M_Ratio_add [] [.p 0, .p 1])])) (oOwnR okB (tbOf [(0, viaM M_Ratio_radd [] [.p 0, .p 1])])))) (aCons (eLst (aCons (eVar 6) (aCons (eVar 7) aNil))) aNil)))
  (sRet (eAn (eCallK (viaM M_law_is [] [.p 0, .p 1, .p 2]) (aCons (eVar 13) (aCons (eOp2 oAdd (eOp2 oMul (eVar 1) (eVar 5)) (eOp2 oMul (eVar 2) (eVar 4))) (aCons (eOp2 oMul (eVar 4) (eVar 5)) aNil))) aNil) (eAn (eOp2 (oOwnL okR (tbOf [(0, viaM M_Ratio_eq [] [.p 0, .p 1])])) (eCallK (viaI 0 M_Ratio_init [.int 1] [.p 0, .p 1, .p 2]) (aCons (eOp1 (fieldL 0) (eVar 6)) (aCons (eOp1 (fieldL 1) (eVar 6)) aNil)) aNil) (eVar 6)) (eCallK (viaM M_law_refused_right [] [.p 0, .p 1]) (aCons (eVar 0) (aCons (eVar 6) aNil)) aNil))))))))))))))))))
def M_law_right : Mv := runB 14 b_law_right
def b_law : Sv := sSeq (sSet 1 (eCallK (viaM M_law_well [] [.p 0]) (aCons (eVar 0) aNil) aNil))
  (sRet (eOp2 oEq (eComp (iRange (aCons (eK (.int 6)) aNil)) [2] (gN 2) (tNt (tVal (eCallK (viaM M_law_right [] [.p 0]) (aCons (eVar 1) aNil) aNil))) (eVar 2)) (eLst aNil)))
def M_law : Mv := runB 3 b_law
/-! ### the addresses, the facts -/
structure Adr where
  a_is_integer : Addr
  fd_is_integer : FuncData
  a_top_of : Addr
  fd_top_of : FuncData
  a_bottom_of : Addr
  fd_bottom_of : FuncData
  a_Ratio_init : Addr
  fd_Ratio_init : FuncData
  a_Ratio_add : Addr
  fd_Ratio_add : FuncData
  a_Ratio_radd : Addr
  fd_Ratio_radd : FuncData
  a_Ratio_sub : Addr
  fd_Ratio_sub : FuncData
  a_Ratio_neg : Addr
  fd_Ratio_neg : FuncData
  a_Ratio_rsub : Addr
  fd_Ratio_rsub : FuncData
  a_Ratio_mul : Addr
  fd_Ratio_mul : FuncData
  a_Ratio_rmul : Addr
  fd_Ratio_rmul : FuncData
  a_Ratio_eq : Addr
  fd_Ratio_eq : FuncData
  a_Ratio_over : Addr
  fd_Ratio_over : FuncData
  a_Ratio_is_below : Addr
  fd_Ratio_is_below : FuncData
  a_Ratio_is_at_most : Addr
  fd_Ratio_is_at_most : FuncData
  a_law_well : Addr
  fd_law_well : FuncData
  a_law_draw : Addr
  fd_law_draw : FuncData
  a_law_one : Addr
  fd_law_one : FuncData
  a_law_gcd : Addr
  fd_law_gcd : FuncData
  a_law_lowest : Addr
  fd_law_lowest : FuncData
  a_law_number : Addr
  fd_law_number : FuncData
  a_law_is : Addr
  fd_law_is : FuncData
  a_law_heard : Addr
  fd_law_heard : FuncData
  a_law_refused_right : Addr
  fd_law_refused_right : FuncData
  a_law_right : Addr
  fd_law_right : FuncData
  a_law : Addr
  fd_law : FuncData
  c_Ratio : Addr
  c_ShareError : Addr
  c_BadNumber : Addr
  c_BadRatio : Addr
  a_BadNumber_init : Addr
  fd_BadNumber_init : FuncData
  a_BadRatio_init : Addr
  fd_BadRatio_init : FuncData
  cc : Addr
  ct : Addr
structure Bs (mg : Str → Option Value) (base : Heap) (B : Adr) : Prop where
  tb : LamX.TabB base mg B.cc B.ct
structure Facts (K : PySem.W.Frag) (mg : Str → Option Value) (B : Adr) : Prop where
  F_is_integer : FunD K "is_integer" "is_integer" (defArgs s_is_integer) (defBody s_is_integer) (defScope s_is_integer) [] [] B.a_is_integer B.fd_is_integer
  g_is_integer : mg "is_integer" = some (.ref B.a_is_integer)
  F_top_of : FunD K "top_of" "top_of" (defArgs s_top_of) (defBody s_top_of) (defScope s_top_of) [] [] B.a_top_of B.fd_top_of
  g_top_of : mg "top_of" = some (.ref B.a_top_of)
  F_bottom_of : FunD K "bottom_of" "bottom_of" (defArgs s_bottom_of) (defBody s_bottom_of) (defScope s_bottom_of) [] [] B.a_bottom_of B.fd_bottom_of
  g_bottom_of : mg "bottom_of" = some (.ref B.a_bottom_of)
  F_Ratio_init : FunD K "__init__" "Ratio.__init__" (defArgs s_Ratio_init) (defBody s_Ratio_init) (defScope s_Ratio_init) [.int 1] [] B.a_Ratio_init B.fd_Ratio_init
  F_Ratio_add : FunD K "__add__" "Ratio.__add__" (defArgs s_Ratio_add) (defBody s_Ratio_add) (defScope s_Ratio_add) [] [] B.a_Ratio_add B.fd_Ratio_add
  m_Ratio_add : Meth K B.c_Ratio "__add__" B.a_Ratio_add
  F_Ratio_radd : FunD K "__radd__" "Ratio.__radd__" (defArgs s_Ratio_radd) (defBody s_Ratio_radd) (defScope s_Ratio_radd) [] [] B.a_Ratio_radd B.fd_Ratio_radd
  m_Ratio_radd : Meth K B.c_Ratio "__radd__" B.a_Ratio_radd
  F_Ratio_sub : FunD K "__sub__" "Ratio.__sub__" (defArgs s_Ratio_sub) (defBody s_Ratio_sub) (defScope s_Ratio_sub) [] [] B.a_Ratio_sub B.fd_Ratio_sub
  m_Ratio_sub : Meth K B.c_Ratio "__sub__" B.a_Ratio_sub
  F_Ratio_neg : FunD K "__neg__" "Ratio.__neg__" (defArgs s_Ratio_neg) (defBody s_Ratio_neg) (defScope s_Ratio_neg) [] [] B.a_Ratio_neg B.fd_Ratio_neg
  m_Ratio_neg : Meth K B.c_Ratio "__neg__" B.a_Ratio_neg
  F_Ratio_rsub : FunD K "__rsub__" "Ratio.__rsub__" (defArgs s_Ratio_rsub) (defBody s_Ratio_rsub) (defScope s_Ratio_rsub) [] [] B.a_Ratio_rsub B.fd_Ratio_rsub
  m_Ratio_rsub : Meth K B.c_Ratio "__rsub__" B.a_Ratio_rsub
  F_Ratio_mul : FunD K "__mul__" "Ratio.__mul__" (defArgs s_Ratio_mul) (defBody s_Ratio_mul) (defScope s_Ratio_mul) [] [] B.a_Ratio_mul B.fd_Ratio_mul
  m_Ratio_mul : Meth K B.c_Ratio "__mul__" B.a_Ratio_mul
  F_Ratio_rmul : FunD K "__rmul__" "Ratio.__rmul__" (defArgs s_Ratio_rmul) (defBody s_Ratio_rmul) (defScope s_Ratio_rmul) [] [] B.a_Ratio_rmul B.fd_Ratio_rmul
  m_Ratio_rmul : Meth K B.c_Ratio "__rmul__" B.a_Ratio_rmul
  F_Ratio_eq : FunD K "__eq__" "Ratio.__eq__" (defArgs s_Ratio_eq) (defBody s_Ratio_eq) (defScope s_Ratio_eq) [] [] B.a_Ratio_eq B.fd_Ratio_eq
  m_Ratio_eq : Meth K B.c_Ratio "__eq__" B.a_Ratio_eq
  F_Ratio_over : FunD K "over" "Ratio.over" (defArgs s_Ratio_over) (defBody s_Ratio_over) (defScope s_Ratio_over) [] [] B.a_Ratio_over B.fd_Ratio_over
  m_Ratio_over : Meth K B.c_Ratio "over" B.a_Ratio_over
  F_Ratio_is_below : FunD K "is_below" "Ratio.is_below" (defArgs s_Ratio_is_below) (defBody s_Ratio_is_below) (defScope s_Ratio_is_below) [] [] B.a_Ratio_is_below B.fd_Ratio_is_below
  m_Ratio_is_below : Meth K B.c_Ratio "is_below" B.a_Ratio_is_below
  F_Ratio_is_at_most : FunD K "is_at_most" "Ratio.is_at_most" (defArgs s_Ratio_is_at_most) (defBody s_Ratio_is_at_most) (defScope s_Ratio_is_at_most) [] [] B.a_Ratio_is_at_most B.fd_Ratio_is_at_most
  m_Ratio_is_at_most : Meth K B.c_Ratio "is_at_most" B.a_Ratio_is_at_most
  F_law_well : FunD K "_law_well" "_law_well" (defArgs s_law_well) (defBody s_law_well) (defScope s_law_well) [] [] B.a_law_well B.fd_law_well
  g_law_well : mg "_law_well" = some (.ref B.a_law_well)
  F_law_draw : FunD K "_law_draw" "_law_draw" (defArgs s_law_draw) (defBody s_law_draw) (defScope s_law_draw) [] [] B.a_law_draw B.fd_law_draw
  g_law_draw : mg "_law_draw" = some (.ref B.a_law_draw)
  F_law_one : FunD K "_law_one" "_law_one" (defArgs s_law_one) (defBody s_law_one) (defScope s_law_one) [] [] B.a_law_one B.fd_law_one
  g_law_one : mg "_law_one" = some (.ref B.a_law_one)
  F_law_gcd : FunD K "_law_gcd" "_law_gcd" (defArgs s_law_gcd) (defBody s_law_gcd) (defScope s_law_gcd) [] [] B.a_law_gcd B.fd_law_gcd
  g_law_gcd : mg "_law_gcd" = some (.ref B.a_law_gcd)
  F_law_lowest : FunD K "_law_lowest" "_law_lowest" (defArgs s_law_lowest) (defBody s_law_lowest) (defScope s_law_lowest) [] [] B.a_law_lowest B.fd_law_lowest
  g_law_lowest : mg "_law_lowest" = some (.ref B.a_law_lowest)
  F_law_number : FunD K "_law_number" "_law_number" (defArgs s_law_number) (defBody s_law_number) (defScope s_law_number) [] [] B.a_law_number B.fd_law_number
  g_law_number : mg "_law_number" = some (.ref B.a_law_number)
  F_law_is : FunD K "_law_is" "_law_is" (defArgs s_law_is) (defBody s_law_is) (defScope s_law_is) [] [] B.a_law_is B.fd_law_is
  g_law_is : mg "_law_is" = some (.ref B.a_law_is)
  F_law_heard : FunD K "_law_heard" "_law_heard" (defArgs s_law_heard) (defBody s_law_heard) (defScope s_law_heard) [] [] B.a_law_heard B.fd_law_heard
  g_law_heard : mg "_law_heard" = some (.ref B.a_law_heard)
  FC_law_refused_right : FunC K "_law_refused_right" "_law_refused_right" (defArgs s_law_refused_right) (defBody s_law_refused_right) (defScope s_law_refused_right) [] [] B.a_law_refused_right B.fd_law_refused_right B.cc
  F_law_refused_right : FunD K "_law_refused_right" "_law_refused_right" (defArgs s_law_refused_right) (defBody s_law_refused_right) (defScope s_law_refused_right) [] [] B.a_law_refused_right B.fd_law_refused_right
  g_law_refused_right : mg "_law_refused_right" = some (.ref B.a_law_refused_right)
  F_law_right : FunD K "_law_right" "_law_right" (defArgs s_law_right) (defBody s_law_right) (defScope s_law_right) [] [] B.a_law_right B.fd_law_right
  g_law_right : mg "_law_right" = some (.ref B.a_law_right)
  F_law : FunD K "law" "law" (defArgs s_law) (defBody s_law) (defScope s_law) [] [] B.a_law B.fd_law
  g_law : mg "law" = some (.ref B.a_law)
  g_Ratio : mg "Ratio" = some (.ref B.c_Ratio)
  cl_Ratio : Cls K B.c_Ratio
  in_Ratio : InsK K B.c_Ratio
  mk_Ratio : Mk K B.c_Ratio B.a_Ratio_init
  k_Ratio : PySem.W.keepIn K (.ref B.c_Ratio) = true
  na_Ratio_top : NoAttr K B.c_Ratio "top"
  na_Ratio_bottom : NoAttr K B.c_Ratio "bottom"
  g_ShareError : mg "ShareError" = some (.ref B.c_ShareError)
  ox_ShareError : OexC K B.c_ShareError
  xf_ShareError : XfC K B.c_ShareError
  xc_ShareError : ExcC K B.c_ShareError
  g_BadNumber : mg "BadNumber" = some (.ref B.c_BadNumber)
  iC_BadNumber : PySem.W.findIn K (.ref B.c_BadNumber) "__init__" = some (some (.ref B.a_BadNumber_init))
  tI_BadNumber : PySem.W.typeIn K (.ref B.a_BadNumber_init) = some (.type "function")
  F_BadNumber_init : FunD K "__init__" "BadNumber.__init__" (defArgs s_BadNumber_init) (defBody s_BadNumber_init) (defScope s_BadNumber_init) [] [] B.a_BadNumber_init B.fd_BadNumber_init
  ox_BadNumber : OexC K B.c_BadNumber
  xf_BadNumber : XfC K B.c_BadNumber
  xc_BadNumber : ExcC K B.c_BadNumber
  na_BadNumber_value : PySem.W.findIn K (.ref B.c_BadNumber) "value" = some none
  g_BadRatio : mg "BadRatio" = some (.ref B.c_BadRatio)
  iC_BadRatio : PySem.W.findIn K (.ref B.c_BadRatio) "__init__" = some (some (.ref B.a_BadRatio_init))
  tI_BadRatio : PySem.W.typeIn K (.ref B.a_BadRatio_init) = some (.type "function")
  F_BadRatio_init : FunD K "__init__" "BadRatio.__init__" (defArgs s_BadRatio_init) (defBody s_BadRatio_init) (defScope s_BadRatio_init) [] [] B.a_BadRatio_init B.fd_BadRatio_init
  ox_BadRatio : OexC K B.c_BadRatio
  xf_BadRatio : XfC K B.c_BadRatio
  xc_BadRatio : ExcC K B.c_BadRatio
  na_BadRatio_value : PySem.W.findIn K (.ref B.c_BadRatio) "value" = some none
  n_isinstance : mg "isinstance" = none
  n_int : mg "int" = none
  n_bool : mg "bool" = none
  n_abs : mg "abs" = none
  n_len : mg "len" = none
  n_range : mg "range" = none
  n_sum : mg "sum" = none
  g_gcd : mg "gcd" = some (.builtin "math.gcd")
  isi_0 : PySem.W.kitOne K (.type "int") (.type "int") = some true
  isi_1 : PySem.W.kitOne K (.type "bool") (.type "int") = some true
  isi_2 : PySem.W.kitOne K (.type "NoneType") (.type "int") = some false
  isi_3 : PySem.W.kitOne K (.type "str") (.type "int") = some false
  isi_4 : PySem.W.kitOne K (.type "tuple") (.type "int") = some false
  isi_5 : PySem.W.kitOne K (.type "list") (.type "int") = some false
  isi_6 : PySem.W.kitOne K (.type "dict") (.type "int") = some false
  isi_7 : PySem.W.kitOne K (.type "int") (.type "bool") = some false
  isi_8 : PySem.W.kitOne K (.type "bool") (.type "bool") = some true
  isi_9 : PySem.W.kitOne K (.type "NoneType") (.type "bool") = some false
  isi_10 : PySem.W.kitOne K (.type "str") (.type "bool") = some false
  isi_11 : PySem.W.kitOne K (.type "tuple") (.type "bool") = some false
  isi_12 : PySem.W.kitOne K (.type "list") (.type "bool") = some false
  isi_13 : PySem.W.kitOne K (.type "dict") (.type "bool") = some false
  isi_14 : PySem.W.kitOne K (.ref B.c_Ratio) (.ref B.c_Ratio) = some true
  isi_15 : PySem.W.kitOne K (.type "int") (.ref B.c_Ratio) = some false
  isi_16 : PySem.W.kitOne K (.type "bool") (.ref B.c_Ratio) = some false
  isi_17 : PySem.W.kitOne K (.type "NoneType") (.ref B.c_Ratio) = some false
  isi_18 : PySem.W.kitOne K (.type "str") (.ref B.c_Ratio) = some false
  isi_19 : PySem.W.kitOne K (.type "tuple") (.ref B.c_Ratio) = some false
  isi_20 : PySem.W.kitOne K (.type "list") (.ref B.c_Ratio) = some false
  isi_21 : PySem.W.kitOne K (.type "dict") (.ref B.c_Ratio) = some false
  isi_22 : PySem.W.kitOne K (.ref B.c_Ratio) (.type "int") = some false
  isi_23 : PySem.W.kitOne K (.ref B.c_BadNumber) (.ref B.c_BadNumber) = some true
  isi_24 : PySem.W.kitOne K (.ref B.c_BadRatio) (.ref B.c_BadNumber) = some false
  isi_25 : PySem.W.kitOne K (.ref B.c_BadNumber) (.ref B.c_BadRatio) = some false
  isi_26 : PySem.W.kitOne K (.ref B.c_BadRatio) (.ref B.c_BadRatio) = some true
  sf_Ratio : PySem.W.selfFirst K B.c_Ratio = true
  ne_Ratio : PySem.W.findIn K (.ref B.c_Ratio) "__ne__" = some (some (.builtin "object.__ne__"))
  o_add : PySem.W.findIn K (.ref B.c_Ratio) (PySem.dunder "add") = some (some (.ref B.a_Ratio_add))
  o_sub : PySem.W.findIn K (.ref B.c_Ratio) (PySem.dunder "sub") = some (some (.ref B.a_Ratio_sub))
  o_mul : PySem.W.findIn K (.ref B.c_Ratio) (PySem.dunder "mul") = some (some (.ref B.a_Ratio_mul))
  or_add : PySem.W.findIn K (.ref B.c_Ratio) (dunderR "add") = some (some (.ref B.a_Ratio_radd))
  or_sub : PySem.W.findIn K (.ref B.c_Ratio) (dunderR "sub") = some (some (.ref B.a_Ratio_rsub))
  or_mul : PySem.W.findIn K (.ref B.c_Ratio) (dunderR "mul") = some (some (.ref B.a_Ratio_rmul))
  sub_int : PySem.W.subIn K (.type "int") (.ref B.c_Ratio) = some false
  sub_bool : PySem.W.subIn K (.type "bool") (.ref B.c_Ratio) = some false
  sub_NoneType : PySem.W.subIn K (.type "NoneType") (.ref B.c_Ratio) = some false
  sub_str : PySem.W.subIn K (.type "str") (.ref B.c_Ratio) = some false
  sub_tuple : PySem.W.subIn K (.type "tuple") (.ref B.c_Ratio) = some false
  sub_list : PySem.W.subIn K (.type "list") (.ref B.c_Ratio) = some false
  sub_dict : PySem.W.subIn K (.type "dict") (.ref B.c_Ratio) = some false
  sup_int : PySem.W.subIn K (.ref B.c_Ratio) (.type "int") = some false
  sup_bool : PySem.W.subIn K (.ref B.c_Ratio) (.type "bool") = some false
  sup_NoneType : PySem.W.subIn K (.ref B.c_Ratio) (.type "NoneType") = some false
  sup_str : PySem.W.subIn K (.ref B.c_Ratio) (.type "str") = some false
  sup_tuple : PySem.W.subIn K (.ref B.c_Ratio) (.type "tuple") = some false
  sup_list : PySem.W.subIn K (.ref B.c_Ratio) (.type "list") = some false
  sup_dict : PySem.W.subIn K (.ref B.c_Ratio) (.type "dict") = some false
  xm_2 : PySem.W.exmOne K (.ref B.c_BadNumber) (.ref B.c_ShareError) = some true
  xm_3 : PySem.W.exmOne K (.ref B.c_BadRatio) (.ref B.c_ShareError) = some true
section
variable {P : Program} {w : World} {K : PySem.W.Frag} {mg : Str → Option Value} {base : Heap} {B : Adr}
abbrev clsA (B : Adr) : Nat → Addr
  | 0 => B.c_Ratio
  | 1 => B.c_ShareError
  | 2 => B.c_BadNumber
  | 3 => B.c_BadRatio
  | _ => 0
def fnames : List Str := ["top", "bottom", "value"]
theorem own_ok (Z : Facts K mg B) : ∀ c f, fldT c f = true → Cls K (clsA B c) ∧ NoAttr K (clsA B c) (nmOf fnames f) := fun c f h => by
  have h : (c, f) ∈ fldL := of_decide_eq_true h
  simp only [fldL, List.mem_cons, Prod.mk.injEq, List.not_mem_nil, or_false] at h
  rcases h with ⟨rfl, rfl⟩ | ⟨rfl, rfl⟩
  · exact ⟨Z.cl_Ratio, Z.na_Ratio_top⟩
  · exact ⟨Z.cl_Ratio, Z.na_Ratio_bottom⟩
theorem xown_ok (Z : Facts K mg B) : ∀ c f, xfldT c f = true → XfC K (clsA B c) ∧ PySem.W.findIn K (.ref (clsA B c)) (nmOf fnames f) = some none := fun c f h => by
  have h : (c, f) ∈ xfldL := of_decide_eq_true h
  simp only [xfldL, List.mem_cons, Prod.mk.injEq, List.not_mem_nil, or_false] at h
  rcases h with ⟨rfl, rfl⟩ | ⟨rfl, rfl⟩
  · exact ⟨Z.xf_BadNumber, Z.na_BadNumber_value⟩
  · exact ⟨Z.xf_BadRatio, Z.na_BadRatio_value⟩
abbrev T0 (Z : Facts K mg B) : Tx K := ⟨clsA B, nmOf fnames, fldT, xfldT, nmOf_inj (by decide +kernel) (by decide +kernel), own_ok Z, xown_ok Z, [(B.ct, ((("_law_refused_right" : Str) ++ ".<locals>.") ++ "<lambda>"))], Lm.no⟩
theorem isiOk (Z : Facts K mg B) (l : Lm) : IsiOk ((T0 Z).setL l) isiT := by
  refine ⟨fun t k b h => ?_, fun c k b h => ?_, fun c k b h => ?_⟩
  · unfold isiT at h
    split at h
    · cases h; exact Z.isi_0
    · cases h; exact Z.isi_1
    · cases h; exact Z.isi_2
    · cases h; exact Z.isi_3
    · cases h; exact Z.isi_4
    · cases h; exact Z.isi_5
    · cases h; exact Z.isi_6
    · cases h; exact Z.isi_7
    · cases h; exact Z.isi_8
    · cases h; exact Z.isi_9
    · cases h; exact Z.isi_10
    · cases h; exact Z.isi_11
    · cases h; exact Z.isi_12
    · cases h; exact Z.isi_13
    · cases h; exact Z.isi_14
    · cases h; exact Z.isi_15
    · cases h; exact Z.isi_16
    · cases h; exact Z.isi_17
    · cases h; exact Z.isi_18
    · cases h; exact Z.isi_19
    · cases h; exact Z.isi_20
    · cases h; exact Z.isi_21
    · cases h; exact Z.isi_22
    · cases h; exact Z.isi_23
    · cases h; exact Z.isi_24
    · cases h; exact Z.isi_25
    · cases h; exact Z.isi_26
    · cases h
  · match c, h with
    | 0, _ => exact Z.in_Ratio
    | 1, h => simp [isiT] at h
    | 2, h => simp [isiT] at h
    | 3, h => simp [isiT] at h
    | c + 4, h => simp [isiT] at h
  · match c, h with
    | 0, h => simp [isiT] at h
    | 1, h => simp [isiT] at h
    | 2, _ => exact Z.xc_BadNumber
    | 3, _ => exact Z.xc_BadRatio
    | c + 4, h => simp [isiT] at h
theorem kb_is_integer_1 (Z : Facts K mg B) : KB K B.fd_is_integer ["value"] 1 [] [] [.p 0] := EL.FunD.kb0 Z.F_is_integer 1 [] [.p 0] rfl rfl (fun _ _ _ _ _ _ us ws h1 h2 => match us, ws, h1, h2 with | [_], [], _, _ => rfl)
theorem kb_top_of_1 (Z : Facts K mg B) : KB K B.fd_top_of ["value"] 1 [] [] [.p 0] := EL.FunD.kb0 Z.F_top_of 1 [] [.p 0] rfl rfl (fun _ _ _ _ _ _ us ws h1 h2 => match us, ws, h1, h2 with | [_], [], _, _ => rfl)
theorem kb_bottom_of_1 (Z : Facts K mg B) : KB K B.fd_bottom_of ["value"] 1 [] [] [.p 0] := EL.FunD.kb0 Z.F_bottom_of 1 [] [.p 0] rfl rfl (fun _ _ _ _ _ _ us ws h1 h2 => match us, ws, h1, h2 with | [_], [], _, _ => rfl)
theorem kb_Ratio_init_3 (Z : Facts K mg B) : KB K B.fd_Ratio_init ["self", "top", "bottom"] 3 [] [.int 1] [.p 0, .p 1, .p 2] := EL.FunD.kb1 Z.F_Ratio_init (fun z => nomatch z) (.cons (.int _) .nil) 3 [] [.p 0, .p 1, .p 2] rfl rfl (fun _ _ _ _ _ _ _ us its ws h1 h2 h3 => match us, its, ws, h1, h2, h3 with | [_, _, _], [_], [], _, _, _ => ⟨_, rfl, rfl⟩)
theorem kb_Ratio_init_1_bottom_top (Z : Facts K mg B) : KB K B.fd_Ratio_init ["self", "top", "bottom"] 1 ["bottom", "top"] [.int 1] [.p 0, .k 1, .k 0] := EL.FunD.kb1 Z.F_Ratio_init (fun z => nomatch z) (.cons (.int _) .nil) 1 ["bottom", "top"] [.p 0, .k 1, .k 0] rfl rfl (fun _ _ _ _ _ _ _ us its ws h1 h2 h3 => match us, its, ws, h1, h2, h3 with | [_], [_], [_, _], _, _, _ => ⟨_, rfl, rfl⟩)
theorem kb_Ratio_init_2 (Z : Facts K mg B) : KB K B.fd_Ratio_init ["self", "top", "bottom"] 2 [] [.int 1] [.p 0, .p 1, .d 0] := EL.FunD.kb1 Z.F_Ratio_init (fun z => nomatch z) (.cons (.int _) .nil) 2 [] [.p 0, .p 1, .d 0] rfl rfl (fun _ _ _ _ _ _ _ us its ws h1 h2 h3 => match us, its, ws, h1, h2, h3 with | [_, _], [_], [], _, _, _ => ⟨_, rfl, rfl⟩)
theorem kb_Ratio_add_2 (Z : Facts K mg B) : KB K B.fd_Ratio_add ["self", "other"] 2 [] [] [.p 0, .p 1] := EL.FunD.kb0 Z.F_Ratio_add 2 [] [.p 0, .p 1] rfl rfl (fun _ _ _ _ _ _ us ws h1 h2 => match us, ws, h1, h2 with | [_, _], [], _, _ => rfl)
theorem kb_Ratio_radd_2 (Z : Facts K mg B) : KB K B.fd_Ratio_radd ["self", "other"] 2 [] [] [.p 0, .p 1] := EL.FunD.kb0 Z.F_Ratio_radd 2 [] [.p 0, .p 1] rfl rfl (fun _ _ _ _ _ _ us ws h1 h2 => match us, ws, h1, h2 with | [_, _], [], _, _ => rfl)
theorem kb_Ratio_sub_2 (Z : Facts K mg B) : KB K B.fd_Ratio_sub ["self", "other"] 2 [] [] [.p 0, .p 1] := EL.FunD.kb0 Z.F_Ratio_sub 2 [] [.p 0, .p 1] rfl rfl (fun _ _ _ _ _ _ us ws h1 h2 => match us, ws, h1, h2 with | [_, _], [], _, _ => rfl)
theorem kb_Ratio_neg_1 (Z : Facts K mg B) : KB K B.fd_Ratio_neg ["self"] 1 [] [] [.p 0] := EL.FunD.kb0 Z.F_Ratio_neg 1 [] [.p 0] rfl rfl (fun _ _ _ _ _ _ us ws h1 h2 => match us, ws, h1, h2 with | [_], [], _, _ => rfl)
theorem kb_Ratio_rsub_2 (Z : Facts K mg B) : KB K B.fd_Ratio_rsub ["self", "other"] 2 [] [] [.p 0, .p 1] := EL.FunD.kb0 Z.F_Ratio_rsub 2 [] [.p 0, .p 1] rfl rfl (fun _ _ _ _ _ _ us ws h1 h2 => match us, ws, h1, h2 with | [_, _], [], _, _ => rfl)
theorem kb_Ratio_mul_2 (Z : Facts K mg B) : KB K B.fd_Ratio_mul ["self", "other"] 2 [] [] [.p 0, .p 1] := EL.FunD.kb0 Z.F_Ratio_mul 2 [] [.p 0, .p 1] rfl rfl (fun _ _ _ _ _ _ us ws h1 h2 => match us, ws, h1, h2 with | [_, _], [], _, _ => rfl)
theorem kb_Ratio_rmul_2 (Z : Facts K mg B) : KB K B.fd_Ratio_rmul ["self", "other"] 2 [] [] [.p 0, .p 1] := EL.FunD.kb0 Z.F_Ratio_rmul 2 [] [.p 0, .p 1] rfl rfl (fun _ _ _ _ _ _ us ws h1 h2 => match us, ws, h1, h2 with | [_, _], [], _, _ => rfl)
theorem kb_Ratio_eq_2 (Z : Facts K mg B) : KB K B.fd_Ratio_eq ["self", "other"] 2 [] [] [.p 0, .p 1] := EL.FunD.kb0 Z.F_Ratio_eq 2 [] [.p 0, .p 1] rfl rfl (fun _ _ _ _ _ _ us ws h1 h2 => match us, ws, h1, h2 with | [_, _], [], _, _ => rfl)
theorem kb_Ratio_over_2 (Z : Facts K mg B) : KB K B.fd_Ratio_over ["self", "other"] 2 [] [] [.p 0, .p 1] := EL.FunD.kb0 Z.F_Ratio_over 2 [] [.p 0, .p 1] rfl rfl (fun _ _ _ _ _ _ us ws h1 h2 => match us, ws, h1, h2 with | [_, _], [], _, _ => rfl)
theorem kb_Ratio_is_below_2 (Z : Facts K mg B) : KB K B.fd_Ratio_is_below ["self", "other"] 2 [] [] [.p 0, .p 1] := EL.FunD.kb0 Z.F_Ratio_is_below 2 [] [.p 0, .p 1] rfl rfl (fun _ _ _ _ _ _ us ws h1 h2 => match us, ws, h1, h2 with | [_, _], [], _, _ => rfl)
theorem kb_Ratio_is_at_most_2 (Z : Facts K mg B) : KB K B.fd_Ratio_is_at_most ["self", "other"] 2 [] [] [.p 0, .p 1] := EL.FunD.kb0 Z.F_Ratio_is_at_most 2 [] [.p 0, .p 1] rfl rfl (fun _ _ _ _ _ _ us ws h1 h2 => match us, ws, h1, h2 with | [_, _], [], _, _ => rfl)
theorem kb_Ratio_is_at_most_1_other (Z : Facts K mg B) : KB K B.fd_Ratio_is_at_most ["self", "other"] 1 ["other"] [] [.p 0, .k 0] := EL.FunD.kb0 Z.F_Ratio_is_at_most 1 ["other"] [.p 0, .k 0] rfl rfl (fun _ _ _ _ _ _ us ws h1 h2 => match us, ws, h1, h2 with | [_], [_], _, _ => rfl)
theorem kb_law_well_1 (Z : Facts K mg B) : KB K B.fd_law_well ["script"] 1 [] [] [.p 0] := EL.FunD.kb0 Z.F_law_well 1 [] [.p 0] rfl rfl (fun _ _ _ _ _ _ us ws h1 h2 => match us, ws, h1, h2 with | [_], [], _, _ => rfl)
theorem kb_law_draw_2 (Z : Facts K mg B) : KB K B.fd_law_draw ["well", "many"] 2 [] [] [.p 0, .p 1] := EL.FunD.kb0 Z.F_law_draw 2 [] [.p 0, .p 1] rfl rfl (fun _ _ _ _ _ _ us ws h1 h2 => match us, ws, h1, h2 with | [_, _], [], _, _ => rfl)
theorem kb_law_one_2 (Z : Facts K mg B) : KB K B.fd_law_one ["well", "some"] 2 [] [] [.p 0, .p 1] := EL.FunD.kb0 Z.F_law_one 2 [] [.p 0, .p 1] rfl rfl (fun _ _ _ _ _ _ us ws h1 h2 => match us, ws, h1, h2 with | [_, _], [], _, _ => rfl)
theorem kb_law_gcd_2 (Z : Facts K mg B) : KB K B.fd_law_gcd ["one", "other"] 2 [] [] [.p 0, .p 1] := EL.FunD.kb0 Z.F_law_gcd 2 [] [.p 0, .p 1] rfl rfl (fun _ _ _ _ _ _ us ws h1 h2 => match us, ws, h1, h2 with | [_, _], [], _, _ => rfl)
theorem kb_law_lowest_2 (Z : Facts K mg B) : KB K B.fd_law_lowest ["top", "bottom"] 2 [] [] [.p 0, .p 1] := EL.FunD.kb0 Z.F_law_lowest 2 [] [.p 0, .p 1] rfl rfl (fun _ _ _ _ _ _ us ws h1 h2 => match us, ws, h1, h2 with | [_, _], [], _, _ => rfl)
theorem kb_law_number_1 (Z : Facts K mg B) : KB K B.fd_law_number ["well"] 1 [] [] [.p 0] := EL.FunD.kb0 Z.F_law_number 1 [] [.p 0] rfl rfl (fun _ _ _ _ _ _ us ws h1 h2 => match us, ws, h1, h2 with | [_], [], _, _ => rfl)
theorem kb_law_is_3 (Z : Facts K mg B) : KB K B.fd_law_is ["told", "top", "bottom"] 3 [] [] [.p 0, .p 1, .p 2] := EL.FunD.kb0 Z.F_law_is 3 [] [.p 0, .p 1, .p 2] rfl rfl (fun _ _ _ _ _ _ us ws h1 h2 => match us, ws, h1, h2 with | [_, _, _], [], _, _ => rfl)
theorem kb_law_heard_1 (Z : Facts K mg B) : KB K B.fd_law_heard ["ask"] 1 [] [] [.p 0] := EL.FunD.kb0 Z.F_law_heard 1 [] [.p 0] rfl rfl (fun _ _ _ _ _ _ us ws h1 h2 => match us, ws, h1, h2 with | [_], [], _, _ => rfl)
theorem kb_law_refused_right_2 (Z : Facts K mg B) : KB K B.fd_law_refused_right ["well", "one"] 2 [] [] [.p 0, .p 1] := EL.FunD.kb0 Z.F_law_refused_right 2 [] [.p 0, .p 1] rfl rfl (fun _ _ _ _ _ _ us ws h1 h2 => match us, ws, h1, h2 with | [_, _], [], _, _ => rfl)
theorem kb_law_right_1 (Z : Facts K mg B) : KB K B.fd_law_right ["well"] 1 [] [] [.p 0] := EL.FunD.kb0 Z.F_law_right 1 [] [.p 0] rfl rfl (fun _ _ _ _ _ _ us ws h1 h2 => match us, ws, h1, h2 with | [_], [], _, _ => rfl)
theorem okx_BadNumber (Z : Facts K mg B) : FnOk P w K mg base CX0 1 B.a_BadNumber_init B.fd_BadNumber_init ["self", "value"] (spX1 K "value") := ok_x1 Z.F_BadNumber_init sc_BadNumber_init fun cdv A outer s H E => pss_one (ps_ost (pv 0) (pv 1))
theorem bx_BadNumber (Z : Facts K mg B) : L2.Binds K B.fd_BadNumber_init ["self", "value"] [] := binds2 Z.F_BadNumber_init fun _ _ _ _ _ _ _ _ => rfl
theorem okx_BadRatio (Z : Facts K mg B) : FnOk P w K mg base CX0 1 B.a_BadRatio_init B.fd_BadRatio_init ["self", "value"] (spX1 K "value") := ok_x1 Z.F_BadRatio_init sc_BadRatio_init fun cdv A outer s H E => pss_one (ps_ost (pv 0) (pv 1))
theorem bx_BadRatio (Z : Facts K mg B) : L2.Binds K B.fd_BadRatio_init ["self", "value"] [] := binds2 Z.F_BadRatio_init fun _ _ _ _ _ _ _ _ => rfl
theorem okR_c (Z : Facts K mg B) (l : Lm) : ∀ c c', okR c (.c c') = true → c' = c ∧ InsK K (((T0 Z).setL l).cls c) := fun c c' h => by
  have h : (c == 0 && c' == 0) = true := h
  rw [Bool.and_eq_true, beq_iff_eq, beq_iff_eq] at h
  obtain ⟨rfl, rfl⟩ := h
  exact ⟨rfl, Z.in_Ratio⟩
theorem okR_x : ∀ c c', okR c (.x c') = false := fun _ _ => rfl
theorem okR_b {c : Nat} {n : String} (h : okR c (.b n) = true) : c = 0 ∧ n ∈ tyL := by
  have h : (c == 0 && tyL.contains n) = true := h
  rw [Bool.and_eq_true, beq_iff_eq, List.contains_iff_mem] at h
  exact h
theorem okR_n (Z : Facts K mg B) {l : Lm} : ∀ c n, okR c (.b n) = true → PySem.W.subIn K (.type n) (.ref (((T0 Z).setL l).cls c)) = some false := fun c n h => by
  obtain ⟨rfl, hn⟩ := okR_b h
  simp only [tyL, List.mem_cons, List.not_mem_nil, or_false] at hn
  rcases hn with rfl | rfl | rfl | rfl | rfl | rfl | rfl
  · exact Z.sub_int
  · exact Z.sub_bool
  · exact Z.sub_NoneType
  · exact Z.sub_str
  · exact Z.sub_tuple
  · exact Z.sub_list
  · exact Z.sub_dict
theorem okR_add (Z : Facts K mg B) {l : Lm} : ∀ c n, okR c (.b n) = true → TyOp K .Add (((T0 Z).setL l).cls c) n := fun c n h => by
  obtain ⟨rfl, hn⟩ := okR_b h
  simp only [tyL, List.mem_cons, List.not_mem_nil, or_false] at hn
  rcases hn with rfl | rfl | rfl | rfl | rfl | rfl | rfl
  · exact tyOp_int_add Z.sub_int Z.sup_int
  · exact tyOp_bool_add Z.sub_bool Z.sup_bool
  · exact tyOp_NoneType_add Z.sub_NoneType Z.sup_NoneType
  · exact tyOp_str_add Z.sub_str Z.sup_str
  · exact tyOp_tuple_add Z.sub_tuple Z.sup_tuple
  · exact tyOp_list_add Z.sub_list Z.sup_list
  · exact tyOp_dict_add Z.sub_dict Z.sup_dict
theorem okB_add (Z : Facts K mg B) {l : Lm} : ∀ c n, okB c n = true → TyOp K .Add (((T0 Z).setL l).cls c) n := fun c n h => okR_add Z c n h
theorem okR_sub (Z : Facts K mg B) {l : Lm} : ∀ c n, okR c (.b n) = true → TyOp K .Sub (((T0 Z).setL l).cls c) n := fun c n h => by
  obtain ⟨rfl, hn⟩ := okR_b h
  simp only [tyL, List.mem_cons, List.not_mem_nil, or_false] at hn
  rcases hn with rfl | rfl | rfl | rfl | rfl | rfl | rfl
  · exact tyOp_int_sub Z.sub_int Z.sup_int
  · exact tyOp_bool_sub Z.sub_bool Z.sup_bool
  · exact tyOp_NoneType_sub Z.sub_NoneType Z.sup_NoneType
  · exact tyOp_str_sub Z.sub_str Z.sup_str
  · exact tyOp_tuple_sub Z.sub_tuple Z.sup_tuple
  · exact tyOp_list_sub Z.sub_list Z.sup_list
  · exact tyOp_dict_sub Z.sub_dict Z.sup_dict
theorem okB_sub (Z : Facts K mg B) {l : Lm} : ∀ c n, okB c n = true → TyOp K .Sub (((T0 Z).setL l).cls c) n := fun c n h => okR_sub Z c n h
theorem okR_mul (Z : Facts K mg B) {l : Lm} : ∀ c n, okR c (.b n) = true → TyOp K .Mult (((T0 Z).setL l).cls c) n := fun c n h => by
  obtain ⟨rfl, hn⟩ := okR_b h
  simp only [tyL, List.mem_cons, List.not_mem_nil, or_false] at hn
  rcases hn with rfl | rfl | rfl | rfl | rfl | rfl | rfl
  · exact tyOp_int_mul Z.sub_int Z.sup_int
  · exact tyOp_bool_mul Z.sub_bool Z.sup_bool
  · exact tyOp_NoneType_mul Z.sub_NoneType Z.sup_NoneType
  · exact tyOp_str_mul Z.sub_str Z.sup_str
  · exact tyOp_tuple_mul Z.sub_tuple Z.sup_tuple
  · exact tyOp_list_mul Z.sub_list Z.sup_list
  · exact tyOp_dict_mul Z.sub_dict Z.sup_dict
theorem okB_mul (Z : Facts K mg B) {l : Lm} : ∀ c n, okB c n = true → TyOp K .Mult (((T0 Z).setL l).cls c) n := fun c n h => okR_mul Z c n h
theorem bd_eq (Z : Facts K mg B) : L2.Binds K B.fd_Ratio_eq ["self", "other"] [] := bindsN Z.F_Ratio_eq fun _ _ _ _ _ _ us hl => match us, hl with | [_, _], _ => rfl
theorem subOk_ShareError (Z : Facts K mg B) (l : Lm) : ∀ c b, subT c = some b → PySem.W.exmOne K (.ref (((T0 Z).setL l).cls c)) (.ref B.c_ShareError) = some b := fun c b h => by
  unfold subT at h
  split at h
  · cases h; exact Z.xm_2
  · cases h; exact Z.xm_3
  · cases h

theorem ok_is_integer (Z : Facts K mg B) (b : Bs mg base B) (l : Lm) : FnOk P w K mg base (L2.CX P w) 1 B.a_is_integer B.fd_is_integer ["value"] (spM ((T0 Z).setL l) 1 M_is_integer) :=
  fn_el (N := N_is_integer) (k := 0) (b := b_is_integer) Z.F_is_integer sc_is_integer fun cdv A outer s H E hr tk => ess_one (es_ret (ev_and (ev_isi (isiOk Z _) (k := .b "int") (by rfl) Z.n_isinstance (ev_var 0 (pv 0)) (pe_tyN (by rfl) Z.n_int PyProof.Rows.Boot.«int») (fun _ h => h)) (ev_bool1 (ev_not (ev_isi (isiOk Z _) (k := .b "bool") (by rfl) Z.n_isinstance (ev_var 0 (pv 0)) (pe_tyN (by rfl) Z.n_bool PyProof.Rows.Boot.«bool») (fun _ h => h))))))

theorem ok_top_of (Z : Facts K mg B) (b : Bs mg base B) (l : Lm) : FnOk P w K mg base (L2.CX P w) 3 B.a_top_of B.fd_top_of ["value"] (spM ((T0 Z).setL l) 1 M_top_of) :=
  fn_el (N := N_top_of) (k := 2) (b := b_top_of) Z.F_top_of sc_top_of fun cdv A outer s H E hr tk => ess_cons (es_if (et_val (ev_isi (isiOk Z _) (k := .c 0) (by rfl) Z.n_isinstance (ev_var 0 (pv 0)) (pe_cls (by rfl) Z.g_Ratio) (fun _ h => h)) (fun _ => rfl)) (ess_one (es_ret (ev_attr (f := 0) rfl (ev_var 0 (pv 0))))) ess_nil)
  (ess_cons (es_if (et_not (et_val (ev_callN (calK_fn (ok_is_integer Z b _) (hr.mono (by decide)) (kb_is_integer_1 Z) tk) (by rfl) Z.g_is_integer Z.F_is_integer.kp (ea_cons (ev_var 0 (pv 0)) ea_nil) ek_nil) (fun _ => rfl))) (ess_one (es_raise1 (c := 3) (f := 2) rfl Z.ox_BadRatio (fun ha => by exact raise1 Z.ox_BadRatio Z.iC_BadRatio Z.tI_BadRatio (okx_BadRatio Z) (bx_BadRatio Z) rfl tk (hr.mono (by decide)) (by rfl) Z.g_BadRatio ha) (ev_var 0 (pv 0)))) ess_nil)
  (ess_one (es_ret (ev_var 0 (pv 0)))))

theorem ok_bottom_of (Z : Facts K mg B) (b : Bs mg base B) (l : Lm) : FnOk P w K mg base (L2.CX P w) 1 B.a_bottom_of B.fd_bottom_of ["value"] (spM ((T0 Z).setL l) 1 M_bottom_of) :=
  fn_el (N := N_bottom_of) (k := 0) (b := b_bottom_of) Z.F_bottom_of sc_bottom_of fun cdv A outer s H E hr tk => ess_one (es_ret (ev_ifx (et_val (ev_isi (isiOk Z _) (k := .c 0) (by rfl) Z.n_isinstance (ev_var 0 (pv 0)) (pe_cls (by rfl) Z.g_Ratio) (fun _ h => h)) (fun _ => rfl)) (ev_attr (f := 1) rfl (ev_var 0 (pv 0))) ev_int))

theorem ok_Ratio_init (Z : Facts K mg B) (b : Bs mg base B) (l : Lm) : FnOk P w K mg base (L2.CX P w) 3 B.a_Ratio_init B.fd_Ratio_init ["self", "top", "bottom"] (spM ((T0 Z).setL l) 3 M_Ratio_init) :=
  fn_el (N := N_Ratio_init) (k := 2) (b := b_Ratio_init) Z.F_Ratio_init sc_Ratio_init fun cdv A outer s H E hr tk => ess_cons (es_if (et_not (et_val (ev_callN (calK_fn (ok_is_integer Z b _) (hr.mono (by decide)) (kb_is_integer_1 Z) tk) (by rfl) Z.g_is_integer Z.F_is_integer.kp (ea_cons (ev_var 1 (pv 1)) ea_nil) ek_nil) (fun _ => rfl))) (ess_one (es_raise1 (c := 2) (f := 2) rfl Z.ox_BadNumber (fun ha => by exact raise1 Z.ox_BadNumber Z.iC_BadNumber Z.tI_BadNumber (okx_BadNumber Z) (bx_BadNumber Z) rfl tk (hr.mono (by decide)) (by rfl) Z.g_BadNumber ha) (ev_var 1 (pv 1)))) ess_nil)
  (ess_cons (es_if (et_w (etw_or (et_not (et_val (ev_callN (calK_fn (ok_is_integer Z b _) (hr.mono (by decide)) (kb_is_integer_1 Z) tk) (by rfl) Z.g_is_integer Z.F_is_integer.kp (ea_cons (ev_var 2 (pv 2)) ea_nil) ek_nil) (fun _ => rfl))) (etw_or1 (et_cmp (ov_eq hr.units) (ev_var 2 (pv 2)) ev_int rfl)))) (ess_one (es_raise1 (c := 2) (f := 2) rfl Z.ox_BadNumber (fun ha => by exact raise1 Z.ox_BadNumber Z.iC_BadNumber Z.tI_BadNumber (okx_BadNumber Z) (bx_BadNumber Z) rfl tk (hr.mono (by decide)) (by rfl) Z.g_BadNumber ha) (ev_var 2 (pv 2)))) ess_nil)
  (ess_cons (es_set (i := 3) (fun h => ps_set nd_Ratio_init rfl (.inl rfl) h) (ev_ifx (et_cmp ov_gt (ev_var 2 (pv 2)) ev_int rfl) (ev_callMb cv_gcd (by rfl) Z.g_gcd (ea_cons (ev_var 1 (pv 1)) (ea_cons (ev_var 2 (pv 2)) ea_nil))) (ev_un ov_neg (ev_callMb cv_gcd (by rfl) Z.g_gcd (ea_cons (ev_var 1 (pv 1)) (ea_cons (ev_var 2 (pv 2)) ea_nil))))))
  (ess_cons (es_setAttr (f := 0) (ok := fun c => fldT c 0) (fun c h => h) (fun ho he => ps_fld ho he rfl) (ev_var 0 (pv 0)) (ev_op ov_div (ev_var 1 (pv 1)) (ev_var 3 (pv 3))))
  (ess_one (es_setAttr (f := 1) (ok := fun c => fldT c 1) (fun c h => h) (fun ho he => ps_fld ho he rfl) (ev_var 0 (pv 0)) (ev_op ov_div (ev_var 2 (pv 2)) (ev_var 3 (pv 3))))))))

theorem ok_Ratio_add (Z : Facts K mg B) (b : Bs mg base B) (l : Lm) : FnOk P w K mg base (L2.CX P w) 5 B.a_Ratio_add B.fd_Ratio_add ["self", "other"] (spM ((T0 Z).setL l) 2 M_Ratio_add) :=
  fn_el (N := N_Ratio_add) (k := 4) (b := b_Ratio_add) Z.F_Ratio_add sc_Ratio_add fun cdv A outer s H E hr tk => ess_one (es_ret (ev_callN (calK_ins (c := 0) Z.mk_Ratio (ok_Ratio_init Z b _) (hr.mono (by decide)) (kb_Ratio_init_3 Z) tk) (by rfl) Z.g_Ratio Z.k_Ratio (ea_cons (ev_op ov_add (ev_op ov_mul (ev_attr (f := 0) rfl (ev_var 0 (pv 0))) (ev_callN (calK_fn (ok_bottom_of Z b _) (hr.mono (by decide)) (kb_bottom_of_1 Z) tk) (by rfl) Z.g_bottom_of Z.F_bottom_of.kp (ea_cons (ev_var 1 (pv 1)) ea_nil) ek_nil)) (ev_op ov_mul (ev_callN (calK_fn (ok_top_of Z b _) (hr.mono (by decide)) (kb_top_of_1 Z) tk) (by rfl) Z.g_top_of Z.F_top_of.kp (ea_cons (ev_var 1 (pv 1)) ea_nil) ek_nil) (ev_attr (f := 1) rfl (ev_var 0 (pv 0))))) (ea_cons (ev_op ov_mul (ev_attr (f := 1) rfl (ev_var 0 (pv 0))) (ev_callN (calK_fn (ok_bottom_of Z b _) (hr.mono (by decide)) (kb_bottom_of_1 Z) tk) (by rfl) Z.g_bottom_of Z.F_bottom_of.kp (ea_cons (ev_var 1 (pv 1)) ea_nil) ek_nil)) ea_nil)) ek_nil))

theorem ok_Ratio_radd (Z : Facts K mg B) (b : Bs mg base B) (l : Lm) : FnOk P w K mg base (L2.CX P w) 6 B.a_Ratio_radd B.fd_Ratio_radd ["self", "other"] (spM ((T0 Z).setL l) 2 M_Ratio_radd) :=
  fn_el (N := N_Ratio_radd) (k := 5) (b := b_Ratio_radd) Z.F_Ratio_radd sc_Ratio_radd fun cdv A outer s H E hr tk => ess_one (es_ret (ev_op ((ov_ownL (fw := tbOf [(0, viaM M_Ratio_add [] [.p 0, .p 1])]) (okT := okR) (own1 (P := fun c F => OwnOp _ _ _ .Add c F) ⟨Z.sf_Ratio, ⟨_, Z.o_add, Z.m_Ratio_add.fn, (calK_fn (ok_Ratio_add Z b _) (hr.mono (by decide)) (kb_Ratio_add_2 Z) tk)⟩, ⟨_, Z.or_add, .inr ⟨_, rfl⟩⟩⟩) (okR_c Z _) okR_x (okR_add Z))) (ev_var 0 (pv 0)) (ev_var 1 (pv 1))))

theorem ok_Ratio_sub (Z : Facts K mg B) (b : Bs mg base B) (l : Lm) : FnOk P w K mg base (L2.CX P w) 5 B.a_Ratio_sub B.fd_Ratio_sub ["self", "other"] (spM ((T0 Z).setL l) 2 M_Ratio_sub) :=
  fn_el (N := N_Ratio_sub) (k := 4) (b := b_Ratio_sub) Z.F_Ratio_sub sc_Ratio_sub fun cdv A outer s H E hr tk => ess_one (es_ret (ev_callN (calK_ins (c := 0) Z.mk_Ratio (ok_Ratio_init Z b _) (hr.mono (by decide)) (kb_Ratio_init_3 Z) tk) (by rfl) Z.g_Ratio Z.k_Ratio (ea_cons (ev_op ov_sub (ev_op ov_mul (ev_attr (f := 0) rfl (ev_var 0 (pv 0))) (ev_callN (calK_fn (ok_bottom_of Z b _) (hr.mono (by decide)) (kb_bottom_of_1 Z) tk) (by rfl) Z.g_bottom_of Z.F_bottom_of.kp (ea_cons (ev_var 1 (pv 1)) ea_nil) ek_nil)) (ev_op ov_mul (ev_callN (calK_fn (ok_top_of Z b _) (hr.mono (by decide)) (kb_top_of_1 Z) tk) (by rfl) Z.g_top_of Z.F_top_of.kp (ea_cons (ev_var 1 (pv 1)) ea_nil) ek_nil) (ev_attr (f := 1) rfl (ev_var 0 (pv 0))))) (ea_cons (ev_op ov_mul (ev_attr (f := 1) rfl (ev_var 0 (pv 0))) (ev_callN (calK_fn (ok_bottom_of Z b _) (hr.mono (by decide)) (kb_bottom_of_1 Z) tk) (by rfl) Z.g_bottom_of Z.F_bottom_of.kp (ea_cons (ev_var 1 (pv 1)) ea_nil) ek_nil)) ea_nil)) ek_nil))

theorem ok_Ratio_neg (Z : Facts K mg B) (b : Bs mg base B) (l : Lm) : FnOk P w K mg base (L2.CX P w) 5 B.a_Ratio_neg B.fd_Ratio_neg ["self"] (spM ((T0 Z).setL l) 1 M_Ratio_neg) :=
  fn_el (N := N_Ratio_neg) (k := 4) (b := b_Ratio_neg) Z.F_Ratio_neg sc_Ratio_neg fun cdv A outer s H E hr tk => ess_one (es_ret (ev_callN (calK_ins (c := 0) Z.mk_Ratio (ok_Ratio_init Z b _) (hr.mono (by decide)) (kb_Ratio_init_3 Z) tk) (by rfl) Z.g_Ratio Z.k_Ratio (ea_cons (ev_un ov_neg (ev_attr (f := 0) rfl (ev_var 0 (pv 0)))) (ea_cons (ev_attr (f := 1) rfl (ev_var 0 (pv 0))) ea_nil)) ek_nil))

theorem ok_Ratio_rsub (Z : Facts K mg B) (b : Bs mg base B) (l : Lm) : FnOk P w K mg base (L2.CX P w) 6 B.a_Ratio_rsub B.fd_Ratio_rsub ["self", "other"] (spM ((T0 Z).setL l) 2 M_Ratio_rsub) :=
  fn_el (N := N_Ratio_rsub) (k := 5) (b := b_Ratio_rsub) Z.F_Ratio_rsub sc_Ratio_rsub fun cdv A outer s H E hr tk => ess_one (es_ret (ev_un ((ov_ownNeg (fw := tbOf [(0, viaM M_Ratio_neg [] [.p 0])]) (own1 (P := fun c F => OwnUn _ _ _ "__neg__" c F) ⟨_, Z.m_Ratio_neg.at_, Z.m_Ratio_neg.fn, (calK_fn (ok_Ratio_neg Z b _) (hr.mono (by decide)) (kb_Ratio_neg_1 Z) tk)⟩))) (ev_op ((ov_ownL (fw := tbOf [(0, viaM M_Ratio_sub [] [.p 0, .p 1])]) (okT := okR) (own1 (P := fun c F => OwnOp _ _ _ .Sub c F) ⟨Z.sf_Ratio, ⟨_, Z.o_sub, Z.m_Ratio_sub.fn, (calK_fn (ok_Ratio_sub Z b _) (hr.mono (by decide)) (kb_Ratio_sub_2 Z) tk)⟩, ⟨_, Z.or_sub, .inr ⟨_, rfl⟩⟩⟩) (okR_c Z _) okR_x (okR_sub Z))) (ev_var 0 (pv 0)) (ev_var 1 (pv 1)))))

theorem ok_Ratio_mul (Z : Facts K mg B) (b : Bs mg base B) (l : Lm) : FnOk P w K mg base (L2.CX P w) 5 B.a_Ratio_mul B.fd_Ratio_mul ["self", "other"] (spM ((T0 Z).setL l) 2 M_Ratio_mul) :=
  fn_el (N := N_Ratio_mul) (k := 4) (b := b_Ratio_mul) Z.F_Ratio_mul sc_Ratio_mul fun cdv A outer s H E hr tk => ess_one (es_ret (ev_callN (calK_ins (c := 0) Z.mk_Ratio (ok_Ratio_init Z b _) (hr.mono (by decide)) (kb_Ratio_init_3 Z) tk) (by rfl) Z.g_Ratio Z.k_Ratio (ea_cons (ev_op ov_mul (ev_attr (f := 0) rfl (ev_var 0 (pv 0))) (ev_callN (calK_fn (ok_top_of Z b _) (hr.mono (by decide)) (kb_top_of_1 Z) tk) (by rfl) Z.g_top_of Z.F_top_of.kp (ea_cons (ev_var 1 (pv 1)) ea_nil) ek_nil)) (ea_cons (ev_op ov_mul (ev_attr (f := 1) rfl (ev_var 0 (pv 0))) (ev_callN (calK_fn (ok_bottom_of Z b _) (hr.mono (by decide)) (kb_bottom_of_1 Z) tk) (by rfl) Z.g_bottom_of Z.F_bottom_of.kp (ea_cons (ev_var 1 (pv 1)) ea_nil) ek_nil)) ea_nil)) ek_nil))

theorem ok_Ratio_rmul (Z : Facts K mg B) (b : Bs mg base B) (l : Lm) : FnOk P w K mg base (L2.CX P w) 6 B.a_Ratio_rmul B.fd_Ratio_rmul ["self", "other"] (spM ((T0 Z).setL l) 2 M_Ratio_rmul) :=
  fn_el (N := N_Ratio_rmul) (k := 5) (b := b_Ratio_rmul) Z.F_Ratio_rmul sc_Ratio_rmul fun cdv A outer s H E hr tk => ess_one (es_ret (ev_op ((ov_ownL (fw := tbOf [(0, viaM M_Ratio_mul [] [.p 0, .p 1])]) (okT := okR) (own1 (P := fun c F => OwnOp _ _ _ .Mult c F) ⟨Z.sf_Ratio, ⟨_, Z.o_mul, Z.m_Ratio_mul.fn, (calK_fn (ok_Ratio_mul Z b _) (hr.mono (by decide)) (kb_Ratio_mul_2 Z) tk)⟩, ⟨_, Z.or_mul, .inr ⟨_, rfl⟩⟩⟩) (okR_c Z _) okR_x (okR_mul Z))) (ev_var 0 (pv 0)) (ev_var 1 (pv 1))))

theorem ok_Ratio_eq (Z : Facts K mg B) (b : Bs mg base B) (l : Lm) : FnOk P w K mg base (L2.CX P w) 1 B.a_Ratio_eq B.fd_Ratio_eq ["self", "other"] (spM ((T0 Z).setL l) 2 M_Ratio_eq) :=
  fn_el (N := N_Ratio_eq) (k := 0) (b := b_Ratio_eq) Z.F_Ratio_eq sc_Ratio_eq fun cdv A outer s H E hr tk => ess_one (es_ret (ev_and (ev_isi (isiOk Z _) (k := .c 0) (by rfl) Z.n_isinstance (ev_var 1 (pv 1)) (pe_cls (by rfl) Z.g_Ratio) (fun _ h => h)) (ev_and (ev_cmp (ov_eq hr.units) (ev_attr (f := 0) rfl (ev_var 0 (pv 0))) (ev_attr (f := 0) rfl (ev_var 1 (pv 1))) rfl) (ev_bool1 (ev_cmp (ov_eq hr.units) (ev_attr (f := 1) rfl (ev_var 0 (pv 0))) (ev_attr (f := 1) rfl (ev_var 1 (pv 1))) rfl)))))

theorem ok_Ratio_over (Z : Facts K mg B) (b : Bs mg base B) (l : Lm) : FnOk P w K mg base (L2.CX P w) 5 B.a_Ratio_over B.fd_Ratio_over ["self", "other"] (spM ((T0 Z).setL l) 2 M_Ratio_over) :=
  fn_el (N := N_Ratio_over) (k := 4) (b := b_Ratio_over) Z.F_Ratio_over sc_Ratio_over fun cdv A outer s H E hr tk => ess_cons (es_if (et_cmp (ov_eq hr.units) (ev_callN (calK_fn (ok_top_of Z b _) (hr.mono (by decide)) (kb_top_of_1 Z) tk) (by rfl) Z.g_top_of Z.F_top_of.kp (ea_cons (ev_var 1 (pv 1)) ea_nil) ek_nil) ev_int rfl) (ess_one (es_raise1 (c := 3) (f := 2) rfl Z.ox_BadRatio (fun ha => by exact raise1 Z.ox_BadRatio Z.iC_BadRatio Z.tI_BadRatio (okx_BadRatio Z) (bx_BadRatio Z) rfl tk (hr.mono (by decide)) (by rfl) Z.g_BadRatio ha) (ev_var 1 (pv 1)))) ess_nil)
  (ess_one (es_ret (ev_callN (calK_ins (c := 0) Z.mk_Ratio (ok_Ratio_init Z b _) (hr.mono (by decide)) (kb_Ratio_init_3 Z) tk) (by rfl) Z.g_Ratio Z.k_Ratio (ea_cons (ev_op ov_mul (ev_attr (f := 0) rfl (ev_var 0 (pv 0))) (ev_callN (calK_fn (ok_bottom_of Z b _) (hr.mono (by decide)) (kb_bottom_of_1 Z) tk) (by rfl) Z.g_bottom_of Z.F_bottom_of.kp (ea_cons (ev_var 1 (pv 1)) ea_nil) ek_nil)) (ea_cons (ev_op ov_mul (ev_attr (f := 1) rfl (ev_var 0 (pv 0))) (ev_callN (calK_fn (ok_top_of Z b _) (hr.mono (by decide)) (kb_top_of_1 Z) tk) (by rfl) Z.g_top_of Z.F_top_of.kp (ea_cons (ev_var 1 (pv 1)) ea_nil) ek_nil)) ea_nil)) ek_nil)))

theorem ok_Ratio_is_below (Z : Facts K mg B) (b : Bs mg base B) (l : Lm) : FnOk P w K mg base (L2.CX P w) 4 B.a_Ratio_is_below B.fd_Ratio_is_below ["self", "other"] (spM ((T0 Z).setL l) 2 M_Ratio_is_below) :=
  fn_el (N := N_Ratio_is_below) (k := 3) (b := b_Ratio_is_below) Z.F_Ratio_is_below sc_Ratio_is_below fun cdv A outer s H E hr tk => ess_one (es_ret (ev_cmp ov_lt (ev_op ov_mul (ev_attr (f := 0) rfl (ev_var 0 (pv 0))) (ev_callN (calK_fn (ok_bottom_of Z b _) (hr.mono (by decide)) (kb_bottom_of_1 Z) tk) (by rfl) Z.g_bottom_of Z.F_bottom_of.kp (ea_cons (ev_var 1 (pv 1)) ea_nil) ek_nil)) (ev_op ov_mul (ev_callN (calK_fn (ok_top_of Z b _) (hr.mono (by decide)) (kb_top_of_1 Z) tk) (by rfl) Z.g_top_of Z.F_top_of.kp (ea_cons (ev_var 1 (pv 1)) ea_nil) ek_nil) (ev_attr (f := 1) rfl (ev_var 0 (pv 0)))) rfl))

theorem ok_Ratio_is_at_most (Z : Facts K mg B) (b : Bs mg base B) (l : Lm) : FnOk P w K mg base (L2.CX P w) 4 B.a_Ratio_is_at_most B.fd_Ratio_is_at_most ["self", "other"] (spM ((T0 Z).setL l) 2 M_Ratio_is_at_most) :=
  fn_el (N := N_Ratio_is_at_most) (k := 3) (b := b_Ratio_is_at_most) Z.F_Ratio_is_at_most sc_Ratio_is_at_most fun cdv A outer s H E hr tk => ess_one (es_ret (ev_cmp ov_le (ev_op ov_mul (ev_attr (f := 0) rfl (ev_var 0 (pv 0))) (ev_callN (calK_fn (ok_bottom_of Z b _) (hr.mono (by decide)) (kb_bottom_of_1 Z) tk) (by rfl) Z.g_bottom_of Z.F_bottom_of.kp (ea_cons (ev_var 1 (pv 1)) ea_nil) ek_nil)) (ev_op ov_mul (ev_callN (calK_fn (ok_top_of Z b _) (hr.mono (by decide)) (kb_top_of_1 Z) tk) (by rfl) Z.g_top_of Z.F_top_of.kp (ea_cons (ev_var 1 (pv 1)) ea_nil) ek_nil) (ev_attr (f := 1) rfl (ev_var 0 (pv 0)))) rfl))

theorem ok_law_well (Z : Facts K mg B) (b : Bs mg base B) (l : Lm) : FnOk P w K mg base (L2.CX P w) 1 B.a_law_well B.fd_law_well ["script"] (spM ((T0 Z).setL l) 1 M_law_well) :=
  fn_el (N := N_law_well) (k := 0) (b := b_law_well) Z.F_law_well sc_law_well fun cdv A outer s H E hr tk => ess_one (es_ret (ev_lstM (ea_cons (ev_comp (own := [("cell", 1)]) rfl nd_law_well (ei_seq (ev_slice (ev_var 0 (pv 0)) eo_none (eo_some ev_int))) (blk_of (N := N_law_well) (sc := defScope s_law_well) ⟨rfl, by decide +kernel, by decide +kernel, by decide +kernel, by decide +kernel⟩ rfl rfl) (by decide) (fun s H C cl fp => eg_name (pg_name nd_law_well rfl (.inl rfl))) (fun s H C cl fp => pts_tt) (fun s H C cl fp => ev_callTy cv_int (by rfl) Z.n_int PyProof.Rows.Boot.«int» (ea_cons (ev_var 1 (pv 1)) ea_nil))) (ea_cons ev_int (ea_cons ev_int ea_nil)))))

theorem ok_law_draw (Z : Facts K mg B) (b : Bs mg base B) (l : Lm) : FnOk P w K mg base (L2.CX P w) 1 B.a_law_draw B.fd_law_draw ["well", "many"] (spM ((T0 Z).setL l) 2 M_law_draw) :=
  fn_el (N := N_law_draw) (k := 0) (b := b_law_draw) Z.F_law_draw sc_law_draw fun cdv A outer s H E hr tk => ess_cons (es_if (et_cmp ov_gt (ev_ix (ev_var 0 (pv 0)) ev_int (fun _ _ => rfl)) ev_int rfl) (ess_cons (es_set (i := 2) (fun h => ps_set nd_law_draw rfl (.inl rfl) h) (ev_callTy cv_int (by rfl) Z.n_int PyProof.Rows.Boot.«int» (ea_cons (ev_ix (ev_var 0 (pv 0)) ev_int (fun _ _ => rfl)) ea_nil)))
  (ess_cons (es_setIx (fun h ho hi => ps_asg h (pg_sub ho hi set_list)) (ev_op ov_div (ev_var 2 (pv 2)) (ev_var 1 (pv 1))) (ev_var 0 (pv 0)) ev_int)
  (ess_one (es_ret (ev_op ov_mod (ev_callTy cv_int (by rfl) Z.n_int PyProof.Rows.Boot.«int» (ea_cons (ev_var 2 (pv 2)) ea_nil)) (ev_var 1 (pv 1))))))) ess_nil)
  (ess_cons (es_set (i := 3) (fun h => ps_set nd_law_draw rfl (.inl rfl) h) (ev_ix (ev_var 0 (pv 0)) ev_int (fun _ _ => rfl)))
  (ess_cons (es_setIx (fun h ho hi => ps_asg h (pg_sub ho hi set_list)) (ev_op ov_add (ev_var 3 (pv 3)) ev_int) (ev_var 0 (pv 0)) ev_int)
  (ess_cons (es_set (i := 4) (fun h => ps_set nd_law_draw rfl (.inl rfl) h) (ev_op ov_add (ev_op ov_mul ev_int (ev_var 3 (pv 3))) ev_int))
  (ess_cons (es_if (et_cmp (ov_ne hr.units) (ev_ix (ev_var 0 (pv 0)) ev_int (fun _ _ => rfl)) (ev_lst ea_nil) rfl) (ess_one (es_set (i := 4) (fun h => ps_set nd_law_draw rfl (.inl rfl) h) (ev_ix (ev_ix (ev_var 0 (pv 0)) ev_int (fun _ _ => rfl)) (ev_op ov_mod (ev_callTy cv_int (by rfl) Z.n_int PyProof.Rows.Boot.«int» (ea_cons (ev_var 3 (pv 3)) ea_nil)) (ev_callBu cv_len (by rfl) Z.n_len PyProof.Rows.Boot.«len» (ea_cons (ev_ix (ev_var 0 (pv 0)) ev_int (fun _ _ => rfl)) ea_nil))) (fun _ _ => rfl)))) ess_nil)
  (ess_cons (es_if (et_w (etw_and (et_cmp ov_lt (ev_var 3 (pv 3)) (ev_callBu cv_len (by rfl) Z.n_len PyProof.Rows.Boot.«len» (ea_cons (ev_ix (ev_var 0 (pv 0)) ev_int (fun _ _ => rfl)) ea_nil)) rfl) (etw_and1 (et_cmp ov_ge (ev_callBu cv_abs (by rfl) Z.n_abs PyProof.Rows.Boot.«abs» (ea_cons (ev_var 4 (pv 4)) ea_nil)) (ev_op ov_pow ev_int ev_int) rfl)))) (ess_cons (es_set (i := 2) (fun h => ps_set nd_law_draw rfl (.inl rfl) h) (ev_op ov_add (ev_op ov_mul ev_int (ev_op ov_sub (ev_callBu cv_abs (by rfl) Z.n_abs PyProof.Rows.Boot.«abs» (ea_cons (ev_callTy cv_int (by rfl) Z.n_int PyProof.Rows.Boot.«int» (ea_cons (ev_var 4 (pv 4)) ea_nil)) ea_nil)) (ev_op ov_pow ev_int ev_int))) (ev_callTy cv_int (by rfl) Z.n_int PyProof.Rows.Boot.«int» (ea_cons (ev_cmp ov_lt (ev_var 4 (pv 4)) ev_int rfl) ea_nil))))
  (ess_cons (es_setIx (fun h ho hi => ps_asg h (pg_sub ho hi set_list)) (ev_op ov_div (ev_var 2 (pv 2)) (ev_var 1 (pv 1))) (ev_var 0 (pv 0)) ev_int)
  (ess_one (es_ret (ev_op ov_mod (ev_callTy cv_int (by rfl) Z.n_int PyProof.Rows.Boot.«int» (ea_cons (ev_var 2 (pv 2)) ea_nil)) (ev_var 1 (pv 1))))))) ess_nil)
  (ess_cons (es_set (i := 5) (fun h => ps_set nd_law_draw rfl (.inl rfl) h) (ev_op ov_mod (ev_callTy cv_int (by rfl) Z.n_int PyProof.Rows.Boot.«int» (ea_cons (ev_op ov_pow (ev_op ov_add (ev_op ov_add (ev_op ov_mod (ev_callTy cv_int (by rfl) Z.n_int PyProof.Rows.Boot.«int» (ea_cons (ev_var 4 (pv 4)) ea_nil)) ev_int) (ev_op ov_mul ev_int (ev_var 3 (pv 3)))) ev_int) ev_int) ea_nil)) ev_int))
  (ess_cons (es_set (i := 5) (fun h => ps_set nd_law_draw rfl (.inl rfl) h) (ev_op ov_mod (ev_callTy cv_int (by rfl) Z.n_int PyProof.Rows.Boot.«int» (ea_cons (ev_op ov_pow (ev_op ov_add (ev_op ov_add (ev_op ov_mul (ev_var 5 (pv 5)) (ev_op ov_add (ev_op ov_mul ev_int (ev_var 3 (pv 3))) ev_int)) (ev_op ov_mul (ev_op ov_mul ev_int (ev_var 3 (pv 3))) (ev_var 3 (pv 3)))) ev_int) ev_int) ea_nil)) ev_int))
  (ess_one (es_ret (ev_op ov_mod (ev_callTy cv_int (by rfl) Z.n_int PyProof.Rows.Boot.«int» (ea_cons (ev_op ov_div (ev_var 5 (pv 5)) ev_int) ea_nil)) (ev_var 1 (pv 1))))))))))))

theorem ok_law_one (Z : Facts K mg B) (b : Bs mg base B) (l : Lm) : FnOk P w K mg base (L2.CX P w) 2 B.a_law_one B.fd_law_one ["well", "some"] (spM ((T0 Z).setL l) 2 M_law_one) :=
  fn_el (N := N_law_one) (k := 1) (b := b_law_one) Z.F_law_one sc_law_one fun cdv A outer s H E hr tk => ess_one (es_ret (ev_ix (ev_var 1 (pv 1)) (ev_callN (calK_fn (ok_law_draw Z b _) (hr.mono (by decide)) (kb_law_draw_2 Z) tk) (by rfl) Z.g_law_draw Z.F_law_draw.kp (ea_cons (ev_var 0 (pv 0)) (ea_cons (ev_callBu cv_len (by rfl) Z.n_len PyProof.Rows.Boot.«len» (ea_cons (ev_var 1 (pv 1)) ea_nil)) ea_nil)) ek_nil) (fun _ _ => rfl)))

theorem ok_law_gcd (Z : Facts K mg B) (b : Bs mg base B) (l : Lm) : FnOk P w K mg base (L2.CX P w) 1 B.a_law_gcd B.fd_law_gcd ["one", "other"] (spM ((T0 Z).setL l) 2 M_law_gcd) :=
  fn_el (N := N_law_gcd) (k := 0) (b := b_law_gcd) Z.F_law_gcd sc_law_gcd fun cdv A outer s H E hr tk => ess_cons (es_par (i := 0) (j := 1) (ps_par rfl nd_law_gcd rfl rfl (by decide) rfl rfl (EA.pa (ea_cons (ev_callBu cv_abs (by rfl) Z.n_abs PyProof.Rows.Boot.«abs» (ea_cons (ev_callTy cv_int (by rfl) Z.n_int PyProof.Rows.Boot.«int» (ea_cons (ev_var 0 (pv 0)) ea_nil)) ea_nil)) (ea_cons (ev_callBu cv_abs (by rfl) Z.n_abs PyProof.Rows.Boot.«abs» (ea_cons (ev_callTy cv_int (by rfl) Z.n_int PyProof.Rows.Boot.«int» (ea_cons (ev_var 1 (pv 1)) ea_nil)) ea_nil)) ea_nil))) (by rfl)))
  (ess_cons (es_while (μ := muGcd) (passes_of rfl) (et_cmp (ov_ne hr.units) (ev_var 1 (pv 1)) ev_int rfl) (ess_one (es_par (i := 0) (j := 1) (ps_par rfl nd_law_gcd rfl rfl (by decide) rfl rfl (EA.pa (ea_cons (ev_var 1 (pv 1)) (ea_cons (ev_op ov_mod (ev_callTy cv_int (by rfl) Z.n_int PyProof.Rows.Boot.«int» (ea_cons (ev_var 0 (pv 0)) ea_nil)) (ev_var 1 (pv 1))) ea_nil))) (by rfl)))))
  (ess_one (es_ret (ev_var 0 (pv 0)))))

theorem ok_law_lowest (Z : Facts K mg B) (b : Bs mg base B) (l : Lm) : FnOk P w K mg base (L2.CX P w) 2 B.a_law_lowest B.fd_law_lowest ["top", "bottom"] (spM ((T0 Z).setL l) 2 M_law_lowest) :=
  fn_el (N := N_law_lowest) (k := 1) (b := b_law_lowest) Z.F_law_lowest sc_law_lowest fun cdv A outer s H E hr tk => ess_cons (es_set (i := 2) (fun h => ps_set nd_law_lowest rfl (.inl rfl) h) (ev_callN (calK_fn (ok_law_gcd Z b _) (hr.mono (by decide)) (kb_law_gcd_2 Z) tk) (by rfl) Z.g_law_gcd Z.F_law_gcd.kp (ea_cons (ev_var 0 (pv 0)) (ea_cons (ev_var 1 (pv 1)) ea_nil)) ek_nil))
  (ess_cons (es_set (i := 3) (fun h => ps_set nd_law_lowest rfl (.inl rfl) h) (ev_ifx (et_cmp ov_gt (ev_var 1 (pv 1)) ev_int rfl) ev_int (ev_un ov_neg ev_int)))
  (ess_one (es_ret (ev_tup (ea_cons (ev_op ov_div (ev_op ov_mul (ev_var 3 (pv 3)) (ev_var 0 (pv 0))) (ev_var 2 (pv 2))) (ea_cons (ev_op ov_div (ev_op ov_mul (ev_var 3 (pv 3)) (ev_var 1 (pv 1))) (ev_var 2 (pv 2))) ea_nil))))))

theorem ok_law_number (Z : Facts K mg B) (b : Bs mg base B) (l : Lm) : FnOk P w K mg base (L2.CX P w) 2 B.a_law_number B.fd_law_number ["well"] (spM ((T0 Z).setL l) 1 M_law_number) :=
  fn_el (N := N_law_number) (k := 1) (b := b_law_number) Z.F_law_number sc_law_number fun cdv A outer s H E hr tk => ess_cons (es_set (i := 1) (fun h => ps_set nd_law_number rfl (.inl rfl) h) (ev_callN (calK_fn (ok_law_draw Z b _) (hr.mono (by decide)) (kb_law_draw_2 Z) tk) (by rfl) Z.g_law_draw Z.F_law_draw.kp (ea_cons (ev_var 0 (pv 0)) (ea_cons ev_int ea_nil)) ek_nil))
  (ess_one (es_ret (ev_ifx (et_cmp ov_gt (ev_var 1 (pv 1)) ev_int rfl) (ev_op ov_sub (ev_callN (calK_fn (ok_law_draw Z b _) (hr.mono (by decide)) (kb_law_draw_2 Z) tk) (by rfl) Z.g_law_draw Z.F_law_draw.kp (ea_cons (ev_var 0 (pv 0)) (ea_cons ev_int ea_nil)) ek_nil) ev_int) (ev_op ov_add (ev_op ov_sub (ev_callN (calK_fn (ok_law_draw Z b _) (hr.mono (by decide)) (kb_law_draw_2 Z) tk) (by rfl) Z.g_law_draw Z.F_law_draw.kp (ea_cons (ev_var 0 (pv 0)) (ea_cons (ev_op ov_sub (ev_op ov_mul ev_int (ev_op ov_pow ev_int ev_int)) ev_int) ea_nil)) ek_nil) (ev_op ov_pow ev_int ev_int)) ev_int))))

theorem ok_law_is (Z : Facts K mg B) (b : Bs mg base B) (l : Lm) : FnOk P w K mg base (L2.CX P w) 3 B.a_law_is B.fd_law_is ["told", "top", "bottom"] (spM ((T0 Z).setL l) 3 M_law_is) :=
  fn_el (N := N_law_is) (k := 2) (b := b_law_is) Z.F_law_is sc_law_is fun cdv A outer s H E hr tk => ess_cons (es_if (et_w (etw_or (et_not (et_val (ev_isi (isiOk Z _) (k := .c 0) (by rfl) Z.n_isinstance (ev_var 0 (pv 0)) (pe_cls (by rfl) Z.g_Ratio) (fun _ h => h)) (fun _ => rfl))) (etw_or (et_not (et_val (ev_isi (isiOk Z _) (k := .b "int") (by rfl) Z.n_isinstance (ev_attr (f := 0) rfl (ev_var 0 (pv 0))) (pe_tyN (by rfl) Z.n_int PyProof.Rows.Boot.«int») (fun _ h => h)) (fun _ => rfl))) (etw_or1 (et_not (et_val (ev_isi (isiOk Z _) (k := .b "int") (by rfl) Z.n_isinstance (ev_attr (f := 1) rfl (ev_var 0 (pv 0))) (pe_tyN (by rfl) Z.n_int PyProof.Rows.Boot.«int») (fun _ h => h)) (fun _ => rfl))))))) (ess_one (es_ret ev_bl)) ess_nil)
  (ess_one (es_ret (ev_cmp (ov_eq hr.units) (ev_tup (ea_cons (ev_attr (f := 0) rfl (ev_var 0 (pv 0))) (ea_cons (ev_attr (f := 1) rfl (ev_var 0 (pv 0))) ea_nil))) (ev_callN (calK_fn (ok_law_lowest Z b _) (hr.mono (by decide)) (kb_law_lowest_2 Z) tk) (by rfl) Z.g_law_lowest Z.F_law_lowest.kp (ea_cons (ev_var 1 (pv 1)) (ea_cons (ev_var 2 (pv 2)) ea_nil)) ek_nil) rfl)))

theorem tl_law_heard (Z : Facts K mg B) (b : Bs mg base B) : TakesLam P w K mg base (T0 Z) N_law_heard "_law_heard" (defScope s_law_heard) B.a_law_heard (defBody s_law_heard) "ask" 0 1 b_law_heard :=
  fun l cdv A outer s H E L hr tk act => ess_cons (es_set (i := 1) (fun h => ps_set nd_law_heard rfl (.inl rfl) h) ev_non)
  (ess_cons (es_try (i := 2) (sub := subT) rfl rfl rfl nd_law_heard rfl rfl ⟨rfl, rfl, .inl Z.g_ShareError⟩ tk (subOk_ShareError Z l) (fun W2 pn xe tk2 po2 => ess_one (es_do (act _ _ _ _ _ tk2))) (fun a pn => ess_cons (es_set (i := 1) (fun h => ps_set nd_law_heard rfl (.inl rfl) h) (ev_tup (ea_cons ev_str (ea_cons ev_non ea_nil))))
  (ess_one (es_if (et_val (ev_isi (isiOk Z _) (k := .c 2) (by rfl) Z.n_isinstance (ev_var 2 (pv 2)) (pe_cls (by rfl) Z.g_BadNumber) (fun _ h => h)) (fun _ => rfl)) (ess_one (es_set (i := 1) (fun h => ps_set nd_law_heard rfl (.inl rfl) h) (ev_tup (ea_cons ev_str (ea_cons (ev_attr (f := 2) rfl (ev_var 2 (pv 2))) ea_nil))))) (ess_one (es_if (et_val (ev_isi (isiOk Z _) (k := .c 3) (by rfl) Z.n_isinstance (ev_var 2 (pv 2)) (pe_cls (by rfl) Z.g_BadRatio) (fun _ h => h)) (fun _ => rfl)) (ess_one (es_set (i := 1) (fun h => ps_set nd_law_heard rfl (.inl rfl) h) (ev_tup (ea_cons ev_str (ea_cons (ev_attr (f := 2) rfl (ev_var 2 (pv 2))) ea_nil))))) ess_nil))))))
  (ess_one (es_ret (ev_var 1 (pv 1)))))

abbrev X_law_refused_right (P : Program) (w : World) (K : PySem.W.Frag) (mg : Str → Option Value) (base : Heap) (B : Adr) (A : Around) (outer : List Env) (s : Shared) (H : Hp) (E : XK) : Cx := cxOf (L2.CX P w) P w K mg base N_law_refused_right "_law_refused_right" (defScope s_law_refused_right) B.a_law_refused_right (.ref B.cc) A outer s H E
theorem lo_law_refused_right_0 (Z : Facts K mg B) (b : Bs mg base B) {A : Around} {outer : List Env} {s : Shared} {H : Hp} {E : XK} (l : Lm) : LamOk (X_law_refused_right P w K mg base B A outer s H E) ((T0 Z).setL l) 8 (lamT (atE (valS ((defBody s_law_refused_right).getD 1 (.Pass ⟨0, 0, 0, 0⟩))) [0, 0])).1 (lamT (atE (valS ((defBody s_law_refused_right).getD 1 (.Pass ⟨0, 0, 0, 0⟩))) [0, 0])).2.1 (lamT (atE (valS ((defBody s_law_refused_right).getD 1 (.Pass ⟨0, 0, 0, 0⟩))) [0, 0])).2.2 f_law_refused_right_0 :=
  ⟨LamX.lamS_by (sc := defScope s_law_refused_right) (by decide +kernel), fun _ _ _ _ _ => rfl, fun A outer s H E f c hr tk => ev_callN (calK_ins (c := 0) Z.mk_Ratio (ok_Ratio_init Z b _) (hr.mono (by decide)) (kb_Ratio_init_3 Z) tk) (by rfl) Z.g_Ratio Z.k_Ratio (ea_cons (ev_var 3 (pv 3)) (ea_cons (ev_var 3 (pv 3)) ea_nil)) ek_nil⟩
theorem lo_law_refused_right_1 (Z : Facts K mg B) (b : Bs mg base B) {A : Around} {outer : List Env} {s : Shared} {H : Hp} {E : XK} (l : Lm) : LamOk (X_law_refused_right P w K mg base B A outer s H E) ((T0 Z).setL l) 8 (lamT (atE (valS ((defBody s_law_refused_right).getD 2 (.Pass ⟨0, 0, 0, 0⟩))) [1, 0])).1 (lamT (atE (valS ((defBody s_law_refused_right).getD 2 (.Pass ⟨0, 0, 0, 0⟩))) [1, 0])).2.1 (lamT (atE (valS ((defBody s_law_refused_right).getD 2 (.Pass ⟨0, 0, 0, 0⟩))) [1, 0])).2.2 f_law_refused_right_1 :=
  ⟨LamX.lamS_by (sc := defScope s_law_refused_right) (by decide +kernel), fun _ _ _ _ _ => rfl, fun A outer s H E f c hr tk => ev_callN (calK_ins (c := 0) Z.mk_Ratio (ok_Ratio_init Z b _) (hr.mono (by decide)) (kb_Ratio_init_3 Z) tk) (by rfl) Z.g_Ratio Z.k_Ratio (ea_cons ev_int (ea_cons (ev_var 3 (pv 3)) ea_nil)) ek_nil⟩
theorem lo_law_refused_right_2 (Z : Facts K mg B) (b : Bs mg base B) {A : Around} {outer : List Env} {s : Shared} {H : Hp} {E : XK} (l : Lm) : LamOk (X_law_refused_right P w K mg base B A outer s H E) ((T0 Z).setL l) 8 (lamT (atE (valS ((defBody s_law_refused_right).getD 3 (.Pass ⟨0, 0, 0, 0⟩))) [1, 0])).1 (lamT (atE (valS ((defBody s_law_refused_right).getD 3 (.Pass ⟨0, 0, 0, 0⟩))) [1, 0])).2.1 (lamT (atE (valS ((defBody s_law_refused_right).getD 3 (.Pass ⟨0, 0, 0, 0⟩))) [1, 0])).2.2 f_law_refused_right_2 :=
  ⟨LamX.lamS_by (sc := defScope s_law_refused_right) (by decide +kernel), fun _ _ _ _ _ => rfl, fun A outer s H E f c hr tk => ev_callN0 (calK_ins (c := 0) Z.mk_Ratio (ok_Ratio_init Z b _) (hr.mono (by decide)) (kb_Ratio_init_1_bottom_top Z) tk) (by rfl) Z.g_Ratio Z.k_Ratio (ek_cons ev_int (ek_cons ev_int ek_nil))⟩
theorem lo_law_refused_right_3 (Z : Facts K mg B) (b : Bs mg base B) {A : Around} {outer : List Env} {s : Shared} {H : Hp} {E : XK} (l : Lm) : LamOk (X_law_refused_right P w K mg base B A outer s H E) ((T0 Z).setL l) 8 (lamT (atE (valS ((defBody s_law_refused_right).getD 4 (.Pass ⟨0, 0, 0, 0⟩))) [1, 0])).1 (lamT (atE (valS ((defBody s_law_refused_right).getD 4 (.Pass ⟨0, 0, 0, 0⟩))) [1, 0])).2.1 (lamT (atE (valS ((defBody s_law_refused_right).getD 4 (.Pass ⟨0, 0, 0, 0⟩))) [1, 0])).2.2 f_law_refused_right_3 :=
  ⟨LamX.lamS_by (sc := defScope s_law_refused_right) (by decide +kernel), fun _ _ _ _ _ => rfl, fun A outer s H E f c hr tk => ev_op ((ov_ownL (fw := tbOf [(0, viaM M_Ratio_add [] [.p 0, .p 1])]) (okT := okR) (own1 (P := fun c F => OwnOp _ _ _ .Add c F) ⟨Z.sf_Ratio, ⟨_, Z.o_add, Z.m_Ratio_add.fn, (calK_fn (ok_Ratio_add Z b _) (hr.mono (by decide)) (kb_Ratio_add_2 Z) tk)⟩, ⟨_, Z.or_add, .inr ⟨_, rfl⟩⟩⟩) (okR_c Z _) okR_x (okR_add Z))) (ev_var 1 (pv 1)) (ev_var 2 (pv 2))⟩
theorem lo_law_refused_right_4 (Z : Facts K mg B) (b : Bs mg base B) {A : Around} {outer : List Env} {s : Shared} {H : Hp} {E : XK} (l : Lm) : LamOk (X_law_refused_right P w K mg base B A outer s H E) ((T0 Z).setL l) 8 (lamT (atE (valS ((defBody s_law_refused_right).getD 5 (.Pass ⟨0, 0, 0, 0⟩))) [1, 0])).1 (lamT (atE (valS ((defBody s_law_refused_right).getD 5 (.Pass ⟨0, 0, 0, 0⟩))) [1, 0])).2.1 (lamT (atE (valS ((defBody s_law_refused_right).getD 5 (.Pass ⟨0, 0, 0, 0⟩))) [1, 0])).2.2 f_law_refused_right_4 :=
  ⟨LamX.lamS_by (sc := defScope s_law_refused_right) (by decide +kernel), fun _ _ _ _ _ => rfl, fun A outer s H E f c hr tk => ev_op ((ov_ownR (rv := tbOf [(0, viaM M_Ratio_radd [] [.p 0, .p 1])]) (okT := okB) (own1 (P := fun c F => RevOp _ _ _ .Add c F) ⟨Z.sf_Ratio, ⟨_, Z.o_add⟩, ⟨_, Z.or_add, Z.m_Ratio_radd.fn, (calK_fn (ok_Ratio_radd Z b _) (hr.mono (by decide)) (kb_Ratio_radd_2 Z) tk)⟩⟩) (okB_add Z))) (ev_var 2 (pv 2)) (ev_var 1 (pv 1))⟩
theorem lo_law_refused_right_5 (Z : Facts K mg B) (b : Bs mg base B) {A : Around} {outer : List Env} {s : Shared} {H : Hp} {E : XK} (l : Lm) : LamOk (X_law_refused_right P w K mg base B A outer s H E) ((T0 Z).setL l) 8 (lamT (atE (valS ((defBody s_law_refused_right).getD 6 (.Pass ⟨0, 0, 0, 0⟩))) [1, 0])).1 (lamT (atE (valS ((defBody s_law_refused_right).getD 6 (.Pass ⟨0, 0, 0, 0⟩))) [1, 0])).2.1 (lamT (atE (valS ((defBody s_law_refused_right).getD 6 (.Pass ⟨0, 0, 0, 0⟩))) [1, 0])).2.2 f_law_refused_right_5 :=
  ⟨LamX.lamS_by (sc := defScope s_law_refused_right) (by decide +kernel), fun _ _ _ _ _ => rfl, fun A outer s H E f c hr tk => ev_op ((ov_ownR (rv := tbOf [(0, viaM M_Ratio_rsub [] [.p 0, .p 1])]) (okT := okB) (own1 (P := fun c F => RevOp _ _ _ .Sub c F) ⟨Z.sf_Ratio, ⟨_, Z.o_sub⟩, ⟨_, Z.or_sub, Z.m_Ratio_rsub.fn, (calK_fn (ok_Ratio_rsub Z b _) (hr.mono (by decide)) (kb_Ratio_rsub_2 Z) tk)⟩⟩) (okB_sub Z))) (ev_var 2 (pv 2)) (ev_var 1 (pv 1))⟩
theorem lo_law_refused_right_6 (Z : Facts K mg B) (b : Bs mg base B) {A : Around} {outer : List Env} {s : Shared} {H : Hp} {E : XK} (l : Lm) : LamOk (X_law_refused_right P w K mg base B A outer s H E) ((T0 Z).setL l) 8 (lamT (atE (valS ((defBody s_law_refused_right).getD 7 (.Pass ⟨0, 0, 0, 0⟩))) [1, 0])).1 (lamT (atE (valS ((defBody s_law_refused_right).getD 7 (.Pass ⟨0, 0, 0, 0⟩))) [1, 0])).2.1 (lamT (atE (valS ((defBody s_law_refused_right).getD 7 (.Pass ⟨0, 0, 0, 0⟩))) [1, 0])).2.2 f_law_refused_right_6 :=
  ⟨LamX.lamS_by (sc := defScope s_law_refused_right) (by decide +kernel), fun _ _ _ _ _ => rfl, fun A outer s H E f c hr tk => ev_op ((ov_ownR (rv := tbOf [(0, viaM M_Ratio_rmul [] [.p 0, .p 1])]) (okT := okB) (own1 (P := fun c F => RevOp _ _ _ .Mult c F) ⟨Z.sf_Ratio, ⟨_, Z.o_mul⟩, ⟨_, Z.or_mul, Z.m_Ratio_rmul.fn, (calK_fn (ok_Ratio_rmul Z b _) (hr.mono (by decide)) (kb_Ratio_rmul_2 Z) tk)⟩⟩) (okB_mul Z))) (ev_var 2 (pv 2)) (ev_var 1 (pv 1))⟩
theorem lo_law_refused_right_7 (Z : Facts K mg B) (b : Bs mg base B) {A : Around} {outer : List Env} {s : Shared} {H : Hp} {E : XK} (l : Lm) : LamOk (X_law_refused_right P w K mg base B A outer s H E) ((T0 Z).setL l) 8 (lamT (atE (valS ((defBody s_law_refused_right).getD 8 (.Pass ⟨0, 0, 0, 0⟩))) [1, 0])).1 (lamT (atE (valS ((defBody s_law_refused_right).getD 8 (.Pass ⟨0, 0, 0, 0⟩))) [1, 0])).2.1 (lamT (atE (valS ((defBody s_law_refused_right).getD 8 (.Pass ⟨0, 0, 0, 0⟩))) [1, 0])).2.2 f_law_refused_right_7 :=
  ⟨LamX.lamS_by (sc := defScope s_law_refused_right) (by decide +kernel), fun _ _ _ _ _ => rfl, fun A outer s H E f c hr tk => ev_op ((ov_ownL (fw := tbOf [(0, viaM M_Ratio_sub [] [.p 0, .p 1])]) (okT := okR) (own1 (P := fun c F => OwnOp _ _ _ .Sub c F) ⟨Z.sf_Ratio, ⟨_, Z.o_sub, Z.m_Ratio_sub.fn, (calK_fn (ok_Ratio_sub Z b _) (hr.mono (by decide)) (kb_Ratio_sub_2 Z) tk)⟩, ⟨_, Z.or_sub, .inr ⟨_, rfl⟩⟩⟩) (okR_c Z _) okR_x (okR_sub Z))) (ev_var 1 (pv 1)) (ev_var 2 (pv 2))⟩
theorem lo_law_refused_right_8 (Z : Facts K mg B) (b : Bs mg base B) {A : Around} {outer : List Env} {s : Shared} {H : Hp} {E : XK} (l : Lm) : LamOk (X_law_refused_right P w K mg base B A outer s H E) ((T0 Z).setL l) 8 (lamT (atE (valS ((defBody s_law_refused_right).getD 9 (.Pass ⟨0, 0, 0, 0⟩))) [1, 0])).1 (lamT (atE (valS ((defBody s_law_refused_right).getD 9 (.Pass ⟨0, 0, 0, 0⟩))) [1, 0])).2.1 (lamT (atE (valS ((defBody s_law_refused_right).getD 9 (.Pass ⟨0, 0, 0, 0⟩))) [1, 0])).2.2 f_law_refused_right_8 :=
  ⟨LamX.lamS_by (sc := defScope s_law_refused_right) (by decide +kernel), fun _ _ _ _ _ => rfl, fun A outer s H E f c hr tk => ev_op ((ov_ownL (fw := tbOf [(0, viaM M_Ratio_mul [] [.p 0, .p 1])]) (okT := okR) (own1 (P := fun c F => OwnOp _ _ _ .Mult c F) ⟨Z.sf_Ratio, ⟨_, Z.o_mul, Z.m_Ratio_mul.fn, (calK_fn (ok_Ratio_mul Z b _) (hr.mono (by decide)) (kb_Ratio_mul_2 Z) tk)⟩, ⟨_, Z.or_mul, .inr ⟨_, rfl⟩⟩⟩) (okR_c Z _) okR_x (okR_mul Z))) (ev_var 1 (pv 1)) (ev_var 2 (pv 2))⟩
theorem lo_law_refused_right_9 (Z : Facts K mg B) (b : Bs mg base B) {A : Around} {outer : List Env} {s : Shared} {H : Hp} {E : XK} (l : Lm) : LamOk (X_law_refused_right P w K mg base B A outer s H E) ((T0 Z).setL l) 8 (lamT (atE (valS ((defBody s_law_refused_right).getD 10 (.Pass ⟨0, 0, 0, 0⟩))) [1, 0])).1 (lamT (atE (valS ((defBody s_law_refused_right).getD 10 (.Pass ⟨0, 0, 0, 0⟩))) [1, 0])).2.1 (lamT (atE (valS ((defBody s_law_refused_right).getD 10 (.Pass ⟨0, 0, 0, 0⟩))) [1, 0])).2.2 f_law_refused_right_9 :=
  ⟨LamX.lamS_by (sc := defScope s_law_refused_right) (by decide +kernel), fun _ _ _ _ _ => rfl, fun A outer s H E f c hr tk => ev_methN (m := "over") (ev_var 1 (pv 1)) (tb_1 ⟨⟨_, Z.cl_Ratio, Z.m_Ratio_over, (calK_fn (ok_Ratio_over Z b _) (hr.mono (by decide)) (kb_Ratio_over_2 Z) tk)⟩⟩) (nmOf_ne (by decide +kernel) (by decide +kernel)) (ea_cons (ev_var 2 (pv 2)) ea_nil) ek_nil⟩
theorem lo_law_refused_right_10 (Z : Facts K mg B) (b : Bs mg base B) {A : Around} {outer : List Env} {s : Shared} {H : Hp} {E : XK} (l : Lm) : LamOk (X_law_refused_right P w K mg base B A outer s H E) ((T0 Z).setL l) 8 (lamT (atE (valS ((defBody s_law_refused_right).getD 11 (.Pass ⟨0, 0, 0, 0⟩))) [1, 0])).1 (lamT (atE (valS ((defBody s_law_refused_right).getD 11 (.Pass ⟨0, 0, 0, 0⟩))) [1, 0])).2.1 (lamT (atE (valS ((defBody s_law_refused_right).getD 11 (.Pass ⟨0, 0, 0, 0⟩))) [1, 0])).2.2 f_law_refused_right_10 :=
  ⟨LamX.lamS_by (sc := defScope s_law_refused_right) (by decide +kernel), fun _ _ _ _ _ => rfl, fun A outer s H E f c hr tk => ev_methN (m := "over") (ev_var 1 (pv 1)) (tb_1 ⟨⟨_, Z.cl_Ratio, Z.m_Ratio_over, (calK_fn (ok_Ratio_over Z b _) (hr.mono (by decide)) (kb_Ratio_over_2 Z) tk)⟩⟩) (nmOf_ne (by decide +kernel) (by decide +kernel)) (ea_cons ev_int ea_nil) ek_nil⟩
theorem lo_law_refused_right_11 (Z : Facts K mg B) (b : Bs mg base B) {A : Around} {outer : List Env} {s : Shared} {H : Hp} {E : XK} (l : Lm) : LamOk (X_law_refused_right P w K mg base B A outer s H E) ((T0 Z).setL l) 8 (lamT (atE (valS ((defBody s_law_refused_right).getD 12 (.Pass ⟨0, 0, 0, 0⟩))) [1, 0])).1 (lamT (atE (valS ((defBody s_law_refused_right).getD 12 (.Pass ⟨0, 0, 0, 0⟩))) [1, 0])).2.1 (lamT (atE (valS ((defBody s_law_refused_right).getD 12 (.Pass ⟨0, 0, 0, 0⟩))) [1, 0])).2.2 f_law_refused_right_11 :=
  ⟨LamX.lamS_by (sc := defScope s_law_refused_right) (by decide +kernel), fun _ _ _ _ _ => rfl, fun A outer s H E f c hr tk => ev_methN (m := "is_below") (ev_var 1 (pv 1)) (tb_1 ⟨⟨_, Z.cl_Ratio, Z.m_Ratio_is_below, (calK_fn (ok_Ratio_is_below Z b _) (hr.mono (by decide)) (kb_Ratio_is_below_2 Z) tk)⟩⟩) (nmOf_ne (by decide +kernel) (by decide +kernel)) (ea_cons (ev_var 2 (pv 2)) ea_nil) ek_nil⟩
theorem lo_law_refused_right_12 (Z : Facts K mg B) (b : Bs mg base B) {A : Around} {outer : List Env} {s : Shared} {H : Hp} {E : XK} (l : Lm) : LamOk (X_law_refused_right P w K mg base B A outer s H E) ((T0 Z).setL l) 8 (lamT (atE (valS ((defBody s_law_refused_right).getD 13 (.Pass ⟨0, 0, 0, 0⟩))) [1, 0])).1 (lamT (atE (valS ((defBody s_law_refused_right).getD 13 (.Pass ⟨0, 0, 0, 0⟩))) [1, 0])).2.1 (lamT (atE (valS ((defBody s_law_refused_right).getD 13 (.Pass ⟨0, 0, 0, 0⟩))) [1, 0])).2.2 f_law_refused_right_12 :=
  ⟨LamX.lamS_by (sc := defScope s_law_refused_right) (by decide +kernel), fun _ _ _ _ _ => rfl, fun A outer s H E f c hr tk => ev_methN0 (m := "is_at_most") (ev_var 1 (pv 1)) (tb_1 ⟨⟨_, Z.cl_Ratio, Z.m_Ratio_is_at_most, (calK_fn (ok_Ratio_is_at_most Z b _) (hr.mono (by decide)) (kb_Ratio_is_at_most_1_other Z) tk)⟩⟩) (nmOf_ne (by decide +kernel) (by decide +kernel)) (ek_cons (ev_var 2 (pv 2)) ek_nil)⟩
theorem lo_law_refused_right_13 (Z : Facts K mg B) (b : Bs mg base B) {A : Around} {outer : List Env} {s : Shared} {H : Hp} {E : XK} (l : Lm) : LamOk (X_law_refused_right P w K mg base B A outer s H E) ((T0 Z).setL l) 8 (lamT (atE (valS ((defBody s_law_refused_right).getD 14 (.Pass ⟨0, 0, 0, 0⟩))) [1, 0])).1 (lamT (atE (valS ((defBody s_law_refused_right).getD 14 (.Pass ⟨0, 0, 0, 0⟩))) [1, 0])).2.1 (lamT (atE (valS ((defBody s_law_refused_right).getD 14 (.Pass ⟨0, 0, 0, 0⟩))) [1, 0])).2.2 f_law_refused_right_13 :=
  ⟨LamX.lamS_by (sc := defScope s_law_refused_right) (by decide +kernel), fun _ _ _ _ _ => rfl, fun A outer s H E f c hr tk => ev_callN (calK_ins (c := 0) Z.mk_Ratio (ok_Ratio_init Z b _) (hr.mono (by decide)) (kb_Ratio_init_2 Z) tk) (by rfl) Z.g_Ratio Z.k_Ratio (ea_cons ev_int ea_nil) ek_nil⟩
theorem lo_law_refused_right (Z : Facts K mg B) (b : Bs mg base B) (k : Nat) (S : Option (EL.Ls × List (Option V))) {A : Around} {outer : List Env} {s : Shared} {H : Hp} {E : XK} : LamsOk (X_law_refused_right P w K mg base B A outer s H E) ((T0 Z).setL ⟨(lmOf k ((X_law_refused_right P w K mg base B A outer s H E).env.qual ++ "<lambda>") (X_law_refused_right P w K mg base B A outer s H E).env.cells lams_law_refused_right).A, (lmOf k ((X_law_refused_right P w K mg base B A outer s H E).env.qual ++ "<lambda>") (X_law_refused_right P w K mg base B A outer s H E).env.cells lams_law_refused_right).M, S⟩) 8 lams_law_refused_right fbs_law_refused_right := (.cons (lo_law_refused_right_0 Z b _) (.cons (lo_law_refused_right_1 Z b _) (.cons (lo_law_refused_right_2 Z b _) (.cons (lo_law_refused_right_3 Z b _) (.cons (lo_law_refused_right_4 Z b _) (.cons (lo_law_refused_right_5 Z b _) (.cons (lo_law_refused_right_6 Z b _) (.cons (lo_law_refused_right_7 Z b _) (.cons (lo_law_refused_right_8 Z b _) (.cons (lo_law_refused_right_9 Z b _) (.cons (lo_law_refused_right_10 Z b _) (.cons (lo_law_refused_right_11 Z b _) (.cons (lo_law_refused_right_12 Z b _) (.cons (lo_law_refused_right_13 Z b _) .nil))))))))))))))
theorem ok_law_refused_right (Z : Facts K mg B) (b : Bs mg base B) (l : Lm) (hl : l = Lm.no) : FnOk P w K mg base (L2.CX P w) 11 B.a_law_refused_right B.fd_law_refused_right ["well", "one"] (spM ((T0 Z).setL l) 2 M_law_refused_right) := by
  subst hl
  exact fn_elL (N := N_law_refused_right) (j := 10) (b := b_law_refused_right) Z.FC_law_refused_right sc_law_refused_right lams_law_refused_right fun k A outer s H E hr tk => ess_cons (es_asg (ps_asg (ev_tup (ea_cons (ev_callN (calK_fn (ok_law_one Z b _) (hr.mono (by decide)) (kb_law_one_2 Z) tk) (by rfl) Z.g_law_one Z.F_law_one.kp (ea_cons (ev_var 0 (pv 0)) (ea_cons (ev_lst (ea_cons ev_non (ea_cons ev_str (ea_cons (ev_tup (ea_cons ev_int (ea_cons ev_int ea_nil))) (ea_cons (ev_lst (ea_cons ev_int ea_nil)) (ea_cons ev_bl (ea_cons ev_bl (ea_cons ev_dctM ea_nil)))))))) ea_nil)) ek_nil) (ea_cons (ev_callN (calK_fn (ok_law_one Z b _) (hr.mono (by decide)) (kb_law_one_2 Z) tk) (by rfl) Z.g_law_one Z.F_law_one.kp (ea_cons (ev_var 0 (pv 0)) (ea_cons (ev_lst (ea_cons ev_non (ea_cons ev_str (ea_cons (ev_tup (ea_cons ev_int ea_nil)) (ea_cons ev_bl (ea_cons ev_bl (ea_cons (ev_lst (ea_cons ev_int ea_nil)) ea_nil))))))) ea_nil)) ek_nil) ea_nil))) (eg_tup (n := 2) rfl (egs_cons (eg_name (pg_name nd_law_refused_right rfl (.inr rfl))) (egs_cons (eg_name (pg_name nd_law_refused_right rfl (.inr rfl))) egs_nil)))))
      (ess_cons (es_set (i := 4) (fun h => ps_set nd_law_refused_right rfl (.inl rfl) h) (ev_lstM (ea_cons (ev_tup (ea_cons (ev_lam ⟨⟨B.cc, B.ct, b.tb, rfl, List.mem_singleton.mpr rfl, fun p hp _ => by rw [List.mem_singleton.mp hp]; rfl⟩⟩ (fun φ h => lam_at (j := 0) h rfl) rfl (LamX.lamS_by (sc := defScope s_law_refused_right) (by decide +kernel))) (ea_cons (ev_tup (ea_cons ev_str (ea_cons (ev_var 3 (pv 3)) ea_nil))) ea_nil))) ea_nil)))
      (ess_cons (es_do (ev_app (fun ho he => pe_bm PySem.F.plainAttrs_list PySem.F.slot_list_append PySem.F.type_list_append mt_append ho (pa_cons he pa_nil)) (ev_var 4 (pv 4)) (ev_tup (ea_cons (ev_lam ⟨⟨B.cc, B.ct, b.tb, rfl, List.mem_singleton.mpr rfl, fun p hp _ => by rw [List.mem_singleton.mp hp]; rfl⟩⟩ (fun φ h => lam_at (j := 1) h rfl) rfl (LamX.lamS_by (sc := defScope s_law_refused_right) (by decide +kernel))) (ea_cons (ev_tup (ea_cons ev_str (ea_cons (ev_var 3 (pv 3)) ea_nil))) ea_nil)))))
      (ess_cons (es_do (ev_app (fun ho he => pe_bm PySem.F.plainAttrs_list PySem.F.slot_list_append PySem.F.type_list_append mt_append ho (pa_cons he pa_nil)) (ev_var 4 (pv 4)) (ev_tup (ea_cons (ev_lam ⟨⟨B.cc, B.ct, b.tb, rfl, List.mem_singleton.mpr rfl, fun p hp _ => by rw [List.mem_singleton.mp hp]; rfl⟩⟩ (fun φ h => lam_at (j := 2) h rfl) rfl (LamX.lamS_by (sc := defScope s_law_refused_right) (by decide +kernel))) (ea_cons (ev_tup (ea_cons ev_str (ea_cons ev_int ea_nil))) ea_nil)))))
      (ess_cons (es_do (ev_app (fun ho he => pe_bm PySem.F.plainAttrs_list PySem.F.slot_list_append PySem.F.type_list_append mt_append ho (pa_cons he pa_nil)) (ev_var 4 (pv 4)) (ev_tup (ea_cons (ev_lam ⟨⟨B.cc, B.ct, b.tb, rfl, List.mem_singleton.mpr rfl, fun p hp _ => by rw [List.mem_singleton.mp hp]; rfl⟩⟩ (fun φ h => lam_at (j := 3) h rfl) rfl (LamX.lamS_by (sc := defScope s_law_refused_right) (by decide +kernel))) (ea_cons (ev_tup (ea_cons ev_str (ea_cons (ev_var 2 (pv 2)) ea_nil))) ea_nil)))))
      (ess_cons (es_do (ev_app (fun ho he => pe_bm PySem.F.plainAttrs_list PySem.F.slot_list_append PySem.F.type_list_append mt_append ho (pa_cons he pa_nil)) (ev_var 4 (pv 4)) (ev_tup (ea_cons (ev_lam ⟨⟨B.cc, B.ct, b.tb, rfl, List.mem_singleton.mpr rfl, fun p hp _ => by rw [List.mem_singleton.mp hp]; rfl⟩⟩ (fun φ h => lam_at (j := 4) h rfl) rfl (LamX.lamS_by (sc := defScope s_law_refused_right) (by decide +kernel))) (ea_cons (ev_tup (ea_cons ev_str (ea_cons (ev_var 2 (pv 2)) ea_nil))) ea_nil)))))
      (ess_cons (es_do (ev_app (fun ho he => pe_bm PySem.F.plainAttrs_list PySem.F.slot_list_append PySem.F.type_list_append mt_append ho (pa_cons he pa_nil)) (ev_var 4 (pv 4)) (ev_tup (ea_cons (ev_lam ⟨⟨B.cc, B.ct, b.tb, rfl, List.mem_singleton.mpr rfl, fun p hp _ => by rw [List.mem_singleton.mp hp]; rfl⟩⟩ (fun φ h => lam_at (j := 5) h rfl) rfl (LamX.lamS_by (sc := defScope s_law_refused_right) (by decide +kernel))) (ea_cons (ev_tup (ea_cons ev_str (ea_cons (ev_var 2 (pv 2)) ea_nil))) ea_nil)))))
      (ess_cons (es_do (ev_app (fun ho he => pe_bm PySem.F.plainAttrs_list PySem.F.slot_list_append PySem.F.type_list_append mt_append ho (pa_cons he pa_nil)) (ev_var 4 (pv 4)) (ev_tup (ea_cons (ev_lam ⟨⟨B.cc, B.ct, b.tb, rfl, List.mem_singleton.mpr rfl, fun p hp _ => by rw [List.mem_singleton.mp hp]; rfl⟩⟩ (fun φ h => lam_at (j := 6) h rfl) rfl (LamX.lamS_by (sc := defScope s_law_refused_right) (by decide +kernel))) (ea_cons (ev_tup (ea_cons ev_str (ea_cons (ev_var 2 (pv 2)) ea_nil))) ea_nil)))))
      (ess_cons (es_do (ev_app (fun ho he => pe_bm PySem.F.plainAttrs_list PySem.F.slot_list_append PySem.F.type_list_append mt_append ho (pa_cons he pa_nil)) (ev_var 4 (pv 4)) (ev_tup (ea_cons (ev_lam ⟨⟨B.cc, B.ct, b.tb, rfl, List.mem_singleton.mpr rfl, fun p hp _ => by rw [List.mem_singleton.mp hp]; rfl⟩⟩ (fun φ h => lam_at (j := 7) h rfl) rfl (LamX.lamS_by (sc := defScope s_law_refused_right) (by decide +kernel))) (ea_cons (ev_tup (ea_cons ev_str (ea_cons (ev_var 2 (pv 2)) ea_nil))) ea_nil)))))
      (ess_cons (es_do (ev_app (fun ho he => pe_bm PySem.F.plainAttrs_list PySem.F.slot_list_append PySem.F.type_list_append mt_append ho (pa_cons he pa_nil)) (ev_var 4 (pv 4)) (ev_tup (ea_cons (ev_lam ⟨⟨B.cc, B.ct, b.tb, rfl, List.mem_singleton.mpr rfl, fun p hp _ => by rw [List.mem_singleton.mp hp]; rfl⟩⟩ (fun φ h => lam_at (j := 8) h rfl) rfl (LamX.lamS_by (sc := defScope s_law_refused_right) (by decide +kernel))) (ea_cons (ev_tup (ea_cons ev_str (ea_cons (ev_var 2 (pv 2)) ea_nil))) ea_nil)))))
      (ess_cons (es_do (ev_app (fun ho he => pe_bm PySem.F.plainAttrs_list PySem.F.slot_list_append PySem.F.type_list_append mt_append ho (pa_cons he pa_nil)) (ev_var 4 (pv 4)) (ev_tup (ea_cons (ev_lam ⟨⟨B.cc, B.ct, b.tb, rfl, List.mem_singleton.mpr rfl, fun p hp _ => by rw [List.mem_singleton.mp hp]; rfl⟩⟩ (fun φ h => lam_at (j := 9) h rfl) rfl (LamX.lamS_by (sc := defScope s_law_refused_right) (by decide +kernel))) (ea_cons (ev_tup (ea_cons ev_str (ea_cons (ev_var 2 (pv 2)) ea_nil))) ea_nil)))))
      (ess_cons (es_do (ev_app (fun ho he => pe_bm PySem.F.plainAttrs_list PySem.F.slot_list_append PySem.F.type_list_append mt_append ho (pa_cons he pa_nil)) (ev_var 4 (pv 4)) (ev_tup (ea_cons (ev_lam ⟨⟨B.cc, B.ct, b.tb, rfl, List.mem_singleton.mpr rfl, fun p hp _ => by rw [List.mem_singleton.mp hp]; rfl⟩⟩ (fun φ h => lam_at (j := 10) h rfl) rfl (LamX.lamS_by (sc := defScope s_law_refused_right) (by decide +kernel))) (ea_cons (ev_tup (ea_cons ev_str (ea_cons ev_int ea_nil))) ea_nil)))))
      (ess_cons (es_do (ev_app (fun ho he => pe_bm PySem.F.plainAttrs_list PySem.F.slot_list_append PySem.F.type_list_append mt_append ho (pa_cons he pa_nil)) (ev_var 4 (pv 4)) (ev_tup (ea_cons (ev_lam ⟨⟨B.cc, B.ct, b.tb, rfl, List.mem_singleton.mpr rfl, fun p hp _ => by rw [List.mem_singleton.mp hp]; rfl⟩⟩ (fun φ h => lam_at (j := 11) h rfl) rfl (LamX.lamS_by (sc := defScope s_law_refused_right) (by decide +kernel))) (ea_cons (ev_tup (ea_cons ev_str (ea_cons (ev_var 2 (pv 2)) ea_nil))) ea_nil)))))
      (ess_cons (es_do (ev_app (fun ho he => pe_bm PySem.F.plainAttrs_list PySem.F.slot_list_append PySem.F.type_list_append mt_append ho (pa_cons he pa_nil)) (ev_var 4 (pv 4)) (ev_tup (ea_cons (ev_lam ⟨⟨B.cc, B.ct, b.tb, rfl, List.mem_singleton.mpr rfl, fun p hp _ => by rw [List.mem_singleton.mp hp]; rfl⟩⟩ (fun φ h => lam_at (j := 12) h rfl) rfl (LamX.lamS_by (sc := defScope s_law_refused_right) (by decide +kernel))) (ea_cons (ev_tup (ea_cons ev_str (ea_cons (ev_var 2 (pv 2)) ea_nil))) ea_nil)))))
      (ess_cons (es_do (ev_app (fun ho he => pe_bm PySem.F.plainAttrs_list PySem.F.slot_list_append PySem.F.type_list_append mt_append ho (pa_cons he pa_nil)) (ev_var 4 (pv 4)) (ev_tup (ea_cons (ev_lam ⟨⟨B.cc, B.ct, b.tb, rfl, List.mem_singleton.mpr rfl, fun p hp _ => by rw [List.mem_singleton.mp hp]; rfl⟩⟩ (fun φ h => lam_at (j := 13) h rfl) rfl (LamX.lamS_by (sc := defScope s_law_refused_right) (by decide +kernel))) (ea_cons ev_non ea_nil)))))
      (ess_one (es_ret (ev_cmp (ov_eq hr.units) (ev_compA (own := [("ask", 5), ("due", 6)]) rfl nd_law_refused_right (fun S => ei_frz (ev_var 4 (pv 4))) (blk_of (N := N_law_refused_right) (sc := defScope s_law_refused_right) ⟨rfl, by decide +kernel, by decide +kernel, by decide +kernel, by decide +kernel⟩ rfl rfl) (by decide) (fun ls σ pins s3 H3 C cl fp Bk => ⟨eg_tup (n := 2) rfl (egs_cons (eg_name (pg_name nd_law_refused_right rfl (.inl rfl))) (egs_cons (eg_name (pg_name nd_law_refused_right rfl (.inl rfl))) egs_nil)), pts_one (et_cmp (ov_ne hr.units) (ev_callB (kk := 8) (i := 0) (ls0 := ls) Bk rfl (TakesLam.mono (tl_law_heard Z b) (by decide)) Z.F_law_heard sc_law_heard (kb_law_heard_1 Z) (hr.mono (by decide)) (by rfl) Z.g_law_heard (ea_cons (ev_var 5 (pv 5)) ea_nil) (lamTab_of (lo_law_refused_right Z b k _)) rfl (.inl rfl)) (ev_var 6 (pv 6)) rfl), ev_var 6 (pv 6)⟩)) (ev_lst ea_nil) rfl)))))))))))))))))

theorem ok_law_right (Z : Facts K mg B) (b : Bs mg base B) (l : Lm) (hl : l = Lm.no) : FnOk P w K mg base (L2.CX P w) 12 B.a_law_right B.fd_law_right ["well"] (spM ((T0 Z).setL l) 1 M_law_right) :=
  fn_el (N := N_law_right) (k := 11) (b := b_law_right) Z.F_law_right sc_law_right fun cdv A outer s H E hr tk => ess_cons (es_par3 (i := 1) (j := 2) (l := 3) (ps_par3 rfl nd_law_right rfl rfl rfl (by decide) (by decide) (by decide) rfl rfl rfl (EA.pa (ea_cons (ev_callN (calK_fn (ok_law_number Z b _) (hr.mono (by decide)) (kb_law_number_1 Z) tk) (by rfl) Z.g_law_number Z.F_law_number.kp (ea_cons (ev_var 0 (pv 0)) ea_nil) ek_nil) (ea_cons (ev_callN (calK_fn (ok_law_number Z b _) (hr.mono (by decide)) (kb_law_number_1 Z) tk) (by rfl) Z.g_law_number Z.F_law_number.kp (ea_cons (ev_var 0 (pv 0)) ea_nil) ek_nil) (ea_cons (ev_callN (calK_fn (ok_law_number Z b _) (hr.mono (by decide)) (kb_law_number_1 Z) tk) (by rfl) Z.g_law_number Z.F_law_number.kp (ea_cons (ev_var 0 (pv 0)) ea_nil) ek_nil) ea_nil)))) (by rfl)))
  (ess_cons (es_par (i := 4) (j := 5) (ps_par rfl nd_law_right rfl rfl (by decide) rfl rfl (EA.pa (ea_cons (ev_callN (calK_fn (ok_law_number Z b _) (hr.mono (by decide)) (kb_law_number_1 Z) tk) (by rfl) Z.g_law_number Z.F_law_number.kp (ea_cons (ev_var 0 (pv 0)) ea_nil) ek_nil) (ea_cons (ev_callN (calK_fn (ok_law_number Z b _) (hr.mono (by decide)) (kb_law_number_1 Z) tk) (by rfl) Z.g_law_number Z.F_law_number.kp (ea_cons (ev_var 0 (pv 0)) ea_nil) ek_nil) ea_nil))) (by rfl)))
  (ess_cons (es_par (i := 4) (j := 5) (ps_par rfl nd_law_right rfl rfl (by decide) rfl rfl (EA.pa (ea_cons (ev_ifx (et_cmp (ov_ne hr.units) (ev_var 4 (pv 4)) ev_int rfl) (ev_var 4 (pv 4)) ev_int) (ea_cons (ev_ifx (et_cmp (ov_ne hr.units) (ev_var 5 (pv 5)) ev_int rfl) (ev_var 5 (pv 5)) (ev_un ov_neg ev_int)) ea_nil))) (by rfl)))
  (ess_cons (es_par (i := 6) (j := 7) (ps_par rfl nd_law_right rfl rfl (by decide) rfl rfl (EA.pa (ea_cons (ev_callN (calK_ins (c := 0) Z.mk_Ratio (ok_Ratio_init Z b _) (hr.mono (by decide)) (kb_Ratio_init_3 Z) tk) (by rfl) Z.g_Ratio Z.k_Ratio (ea_cons (ev_var 1 (pv 1)) (ea_cons (ev_var 4 (pv 4)) ea_nil)) ek_nil) (ea_cons (ev_callN0 (calK_ins (c := 0) Z.mk_Ratio (ok_Ratio_init Z b _) (hr.mono (by decide)) (kb_Ratio_init_1_bottom_top Z) tk) (by rfl) Z.g_Ratio Z.k_Ratio (ek_cons (ev_var 5 (pv 5)) (ek_cons (ev_var 2 (pv 2)) ek_nil))) ea_nil))) (by rfl)))
  (ess_cons (es_if (et_w (etw_or (et_not (et_val (ev_callN (calK_fn (ok_law_is Z b _) (hr.mono (by decide)) (kb_law_is_3 Z) tk) (by rfl) Z.g_law_is Z.F_law_is.kp (ea_cons (ev_var 6 (pv 6)) (ea_cons (ev_var 1 (pv 1)) (ea_cons (ev_var 4 (pv 4)) ea_nil))) ek_nil) (fun _ => rfl))) (etw_or (et_not (et_val (ev_callN (calK_fn (ok_law_is Z b _) (hr.mono (by decide)) (kb_law_is_3 Z) tk) (by rfl) Z.g_law_is Z.F_law_is.kp (ea_cons (ev_callN (calK_ins (c := 0) Z.mk_Ratio (ok_Ratio_init Z b _) (hr.mono (by decide)) (kb_Ratio_init_2 Z) tk) (by rfl) Z.g_Ratio Z.k_Ratio (ea_cons (ev_var 3 (pv 3)) ea_nil) ek_nil) (ea_cons (ev_var 3 (pv 3)) (ea_cons ev_int ea_nil))) ek_nil) (fun _ => rfl))) (etw_or1 (et_not (et_val (ev_callN (calK_fn (ok_law_is Z b _) (hr.mono (by decide)) (kb_law_is_3 Z) tk) (by rfl) Z.g_law_is Z.F_law_is.kp (ea_cons (ev_un ((ov_ownNeg (fw := tbOf [(0, viaM M_Ratio_neg [] [.p 0])]) (own1 (P := fun c F => OwnUn _ _ _ "__neg__" c F) ⟨_, Z.m_Ratio_neg.at_, Z.m_Ratio_neg.fn, (calK_fn (ok_Ratio_neg Z b _) (hr.mono (by decide)) (kb_Ratio_neg_1 Z) tk)⟩))) (ev_var 6 (pv 6))) (ea_cons (ev_un ov_neg (ev_var 1 (pv 1))) (ea_cons (ev_var 4 (pv 4)) ea_nil))) ek_nil) (fun _ => rfl))))))) (ess_one (es_ret ev_bl)) ess_nil)
  (ess_cons (es_if (et_w (etw_or (et_not (et_val (ev_callN (calK_fn (ok_law_is Z b _) (hr.mono (by decide)) (kb_law_is_3 Z) tk) (by rfl) Z.g_law_is Z.F_law_is.kp (ea_cons (ev_op ((ov_ownL (fw := tbOf [(0, viaM M_Ratio_add [] [.p 0, .p 1])]) (okT := okR) (own1 (P := fun c F => OwnOp _ _ _ .Add c F) ⟨Z.sf_Ratio, ⟨_, Z.o_add, Z.m_Ratio_add.fn, (calK_fn (ok_Ratio_add Z b _) (hr.mono (by decide)) (kb_Ratio_add_2 Z) tk)⟩, ⟨_, Z.or_add, .inr ⟨_, rfl⟩⟩⟩) (okR_c Z _) okR_x (okR_add Z))) (ev_var 6 (pv 6)) (ev_var 7 (pv 7))) (ea_cons (ev_op ov_add (ev_op ov_mul (ev_var 1 (pv 1)) (ev_var 5 (pv 5))) (ev_op ov_mul (ev_var 2 (pv 2)) (ev_var 4 (pv 4)))) (ea_cons (ev_op ov_mul (ev_var 4 (pv 4)) (ev_var 5 (pv 5))) ea_nil))) ek_nil) (fun _ => rfl))) (etw_or (et_not (et_val (ev_callN (calK_fn (ok_law_is Z b _) (hr.mono (by decide)) (kb_law_is_3 Z) tk) (by rfl) Z.g_law_is Z.F_law_is.kp (ea_cons (ev_op ((ov_ownL (fw := tbOf [(0, viaM M_Ratio_sub [] [.p 0, .p 1])]) (okT := okR) (own1 (P := fun c F => OwnOp _ _ _ .Sub c F) ⟨Z.sf_Ratio, ⟨_, Z.o_sub, Z.m_Ratio_sub.fn, (calK_fn (ok_Ratio_sub Z b _) (hr.mono (by decide)) (kb_Ratio_sub_2 Z) tk)⟩, ⟨_, Z.or_sub, .inr ⟨_, rfl⟩⟩⟩) (okR_c Z _) okR_x (okR_sub Z))) (ev_var 6 (pv 6)) (ev_var 7 (pv 7))) (ea_cons (ev_op ov_sub (ev_op ov_mul (ev_var 1 (pv 1)) (ev_var 5 (pv 5))) (ev_op ov_mul (ev_var 2 (pv 2)) (ev_var 4 (pv 4)))) (ea_cons (ev_op ov_mul (ev_var 4 (pv 4)) (ev_var 5 (pv 5))) ea_nil))) ek_nil) (fun _ => rfl))) (etw_or1 (et_not (et_val (ev_callN (calK_fn (ok_law_is Z b _) (hr.mono (by decide)) (kb_law_is_3 Z) tk) (by rfl) Z.g_law_is Z.F_law_is.kp (ea_cons (ev_op ((ov_ownL (fw := tbOf [(0, viaM M_Ratio_mul [] [.p 0, .p 1])]) (okT := okR) (own1 (P := fun c F => OwnOp _ _ _ .Mult c F) ⟨Z.sf_Ratio, ⟨_, Z.o_mul, Z.m_Ratio_mul.fn, (calK_fn (ok_Ratio_mul Z b _) (hr.mono (by decide)) (kb_Ratio_mul_2 Z) tk)⟩, ⟨_, Z.or_mul, .inr ⟨_, rfl⟩⟩⟩) (okR_c Z _) okR_x (okR_mul Z))) (ev_var 6 (pv 6)) (ev_var 7 (pv 7))) (ea_cons (ev_op ov_mul (ev_var 1 (pv 1)) (ev_var 2 (pv 2))) (ea_cons (ev_op ov_mul (ev_var 4 (pv 4)) (ev_var 5 (pv 5))) ea_nil))) ek_nil) (fun _ => rfl))))))) (ess_one (es_ret ev_bl)) ess_nil)
  (ess_cons (es_if (et_w (etw_or (et_not (et_val (ev_callN (calK_fn (ok_law_is Z b _) (hr.mono (by decide)) (kb_law_is_3 Z) tk) (by rfl) Z.g_law_is Z.F_law_is.kp (ea_cons (ev_op ((ov_ownL (fw := tbOf [(0, viaM M_Ratio_add [] [.p 0, .p 1])]) (okT := okR) (own1 (P := fun c F => OwnOp _ _ _ .Add c F) ⟨Z.sf_Ratio, ⟨_, Z.o_add, Z.m_Ratio_add.fn, (calK_fn (ok_Ratio_add Z b _) (hr.mono (by decide)) (kb_Ratio_add_2 Z) tk)⟩, ⟨_, Z.or_add, .inr ⟨_, rfl⟩⟩⟩) (okR_c Z _) okR_x (okR_add Z))) (ev_var 6 (pv 6)) (ev_var 3 (pv 3))) (ea_cons (ev_op ov_add (ev_var 1 (pv 1)) (ev_op ov_mul (ev_var 3 (pv 3)) (ev_var 4 (pv 4)))) (ea_cons (ev_var 4 (pv 4)) ea_nil))) ek_nil) (fun _ => rfl))) (etw_or (et_not (et_val (ev_callN (calK_fn (ok_law_is Z b _) (hr.mono (by decide)) (kb_law_is_3 Z) tk) (by rfl) Z.g_law_is Z.F_law_is.kp (ea_cons (ev_op ((ov_ownR (rv := tbOf [(0, viaM M_Ratio_radd [] [.p 0, .p 1])]) (okT := okB) (own1 (P := fun c F => RevOp _ _ _ .Add c F) ⟨Z.sf_Ratio, ⟨_, Z.o_add⟩, ⟨_, Z.or_add, Z.m_Ratio_radd.fn, (calK_fn (ok_Ratio_radd Z b _) (hr.mono (by decide)) (kb_Ratio_radd_2 Z) tk)⟩⟩) (okB_add Z))) (ev_var 3 (pv 3)) (ev_var 6 (pv 6))) (ea_cons (ev_op ov_add (ev_var 1 (pv 1)) (ev_op ov_mul (ev_var 3 (pv 3)) (ev_var 4 (pv 4)))) (ea_cons (ev_var 4 (pv 4)) ea_nil))) ek_nil) (fun _ => rfl))) (etw_or1 (et_not (et_val (ev_callN (calK_fn (ok_law_is Z b _) (hr.mono (by decide)) (kb_law_is_3 Z) tk) (by rfl) Z.g_law_is Z.F_law_is.kp (ea_cons (ev_op ((ov_ownL (fw := tbOf [(0, viaM M_Ratio_sub [] [.p 0, .p 1])]) (okT := okR) (own1 (P := fun c F => OwnOp _ _ _ .Sub c F) ⟨Z.sf_Ratio, ⟨_, Z.o_sub, Z.m_Ratio_sub.fn, (calK_fn (ok_Ratio_sub Z b _) (hr.mono (by decide)) (kb_Ratio_sub_2 Z) tk)⟩, ⟨_, Z.or_sub, .inr ⟨_, rfl⟩⟩⟩) (okR_c Z _) okR_x (okR_sub Z))) (ev_var 6 (pv 6)) (ev_var 3 (pv 3))) (ea_cons (ev_op ov_sub (ev_var 1 (pv 1)) (ev_op ov_mul (ev_var 3 (pv 3)) (ev_var 4 (pv 4)))) (ea_cons (ev_var 4 (pv 4)) ea_nil))) ek_nil) (fun _ => rfl))))))) (ess_one (es_ret ev_bl)) ess_nil)
  (ess_cons (es_if (et_w (etw_or (et_not (et_val (ev_callN (calK_fn (ok_law_is Z b _) (hr.mono (by decide)) (kb_law_is_3 Z) tk) (by rfl) Z.g_law_is Z.F_law_is.kp (ea_cons (ev_op ((ov_ownR (rv := tbOf [(0, viaM M_Ratio_rsub [] [.p 0, .p 1])]) (okT := okB) (own1 (P := fun c F => RevOp _ _ _ .Sub c F) ⟨Z.sf_Ratio, ⟨_, Z.o_sub⟩, ⟨_, Z.or_sub, Z.m_Ratio_rsub.fn, (calK_fn (ok_Ratio_rsub Z b _) (hr.mono (by decide)) (kb_Ratio_rsub_2 Z) tk)⟩⟩) (okB_sub Z))) (ev_var 3 (pv 3)) (ev_var 6 (pv 6))) (ea_cons (ev_op ov_sub (ev_op ov_mul (ev_var 3 (pv 3)) (ev_var 4 (pv 4))) (ev_var 1 (pv 1))) (ea_cons (ev_var 4 (pv 4)) ea_nil))) ek_nil) (fun _ => rfl))) (etw_or (et_not (et_val (ev_callN (calK_fn (ok_law_is Z b _) (hr.mono (by decide)) (kb_law_is_3 Z) tk) (by rfl) Z.g_law_is Z.F_law_is.kp (ea_cons (ev_op ((ov_ownR (rv := tbOf [(0, viaM M_Ratio_rmul [] [.p 0, .p 1])]) (okT := okB) (own1 (P := fun c F => RevOp _ _ _ .Mult c F) ⟨Z.sf_Ratio, ⟨_, Z.o_mul⟩, ⟨_, Z.or_mul, Z.m_Ratio_rmul.fn, (calK_fn (ok_Ratio_rmul Z b _) (hr.mono (by decide)) (kb_Ratio_rmul_2 Z) tk)⟩⟩) (okB_mul Z))) (ev_var 3 (pv 3)) (ev_var 6 (pv 6))) (ea_cons (ev_op ov_mul (ev_var 3 (pv 3)) (ev_var 1 (pv 1))) (ea_cons (ev_var 4 (pv 4)) ea_nil))) ek_nil) (fun _ => rfl))) (etw_or1 (et_not (et_val (ev_callN (calK_fn (ok_law_is Z b _) (hr.mono (by decide)) (kb_law_is_3 Z) tk) (by rfl) Z.g_law_is Z.F_law_is.kp (ea_cons (ev_op ((ov_ownL (fw := tbOf [(0, viaM M_Ratio_mul [] [.p 0, .p 1])]) (okT := okR) (own1 (P := fun c F => OwnOp _ _ _ .Mult c F) ⟨Z.sf_Ratio, ⟨_, Z.o_mul, Z.m_Ratio_mul.fn, (calK_fn (ok_Ratio_mul Z b _) (hr.mono (by decide)) (kb_Ratio_mul_2 Z) tk)⟩, ⟨_, Z.or_mul, .inr ⟨_, rfl⟩⟩⟩) (okR_c Z _) okR_x (okR_mul Z))) (ev_var 6 (pv 6)) (ev_var 3 (pv 3))) (ea_cons (ev_op ov_mul (ev_var 3 (pv 3)) (ev_var 1 (pv 1))) (ea_cons (ev_var 4 (pv 4)) ea_nil))) ek_nil) (fun _ => rfl))))))) (ess_one (es_ret ev_bl)) ess_nil)
  (ess_cons (es_if (et_w (etw_or (et_w (etw_and (et_cmp (ov_ne hr.units) (ev_var 2 (pv 2)) ev_int rfl) (etw_and1 (et_not (et_val (ev_callN (calK_fn (ok_law_is Z b _) (hr.mono (by decide)) (kb_law_is_3 Z) tk) (by rfl) Z.g_law_is Z.F_law_is.kp (ea_cons (ev_methN (m := "over") (ev_var 6 (pv 6)) (tb_1 ⟨⟨_, Z.cl_Ratio, Z.m_Ratio_over, (calK_fn (ok_Ratio_over Z b _) (hr.mono (by decide)) (kb_Ratio_over_2 Z) tk)⟩⟩) (nmOf_ne (by decide +kernel) (by decide +kernel)) (ea_cons (ev_var 7 (pv 7)) ea_nil) ek_nil) (ea_cons (ev_op ov_mul (ev_var 1 (pv 1)) (ev_var 5 (pv 5))) (ea_cons (ev_op ov_mul (ev_var 4 (pv 4)) (ev_var 2 (pv 2))) ea_nil))) ek_nil) (fun _ => rfl)))))) (etw_or1 (et_w (etw_and (et_cmp (ov_ne hr.units) (ev_var 3 (pv 3)) ev_int rfl) (etw_and1 (et_not (et_val (ev_callN (calK_fn (ok_law_is Z b _) (hr.mono (by decide)) (kb_law_is_3 Z) tk) (by rfl) Z.g_law_is Z.F_law_is.kp (ea_cons (ev_methN (m := "over") (ev_var 6 (pv 6)) (tb_1 ⟨⟨_, Z.cl_Ratio, Z.m_Ratio_over, (calK_fn (ok_Ratio_over Z b _) (hr.mono (by decide)) (kb_Ratio_over_2 Z) tk)⟩⟩) (nmOf_ne (by decide +kernel) (by decide +kernel)) (ea_cons (ev_var 3 (pv 3)) ea_nil) ek_nil) (ea_cons (ev_var 1 (pv 1)) (ea_cons (ev_op ov_mul (ev_var 4 (pv 4)) (ev_var 3 (pv 3))) ea_nil))) ek_nil) (fun _ => rfl))))))))) (ess_one (es_ret ev_bl)) ess_nil)
  (ess_cons (es_set (i := 8) (fun h => ps_set nd_law_right rfl (.inl rfl) h) (ev_ifx (et_cmp ov_gt (ev_op ov_mul (ev_var 4 (pv 4)) (ev_var 5 (pv 5))) ev_int rfl) ev_int (ev_un ov_neg ev_int)))
  (ess_cons (es_par (i := 9) (j := 10) (ps_par rfl nd_law_right rfl rfl (by decide) rfl rfl (EA.pa (ea_cons (ev_op ov_mul (ev_var 8 (pv 8)) (ev_op ov_sub (ev_op ov_mul (ev_var 1 (pv 1)) (ev_var 5 (pv 5))) (ev_op ov_mul (ev_var 2 (pv 2)) (ev_var 4 (pv 4))))) (ea_cons (ev_ifx (et_cmp ov_gt (ev_var 4 (pv 4)) ev_int rfl) (ev_op ov_sub (ev_var 1 (pv 1)) (ev_op ov_mul (ev_var 3 (pv 3)) (ev_var 4 (pv 4)))) (ev_op ov_sub (ev_op ov_mul (ev_var 3 (pv 3)) (ev_var 4 (pv 4))) (ev_var 1 (pv 1)))) ea_nil))) (by rfl)))
  (ess_cons (es_set (i := 11) (fun h => ps_set nd_law_right rfl (.inl rfl) h) (ev_lst (ea_cons (ev_methN (m := "is_below") (ev_var 6 (pv 6)) (tb_1 ⟨⟨_, Z.cl_Ratio, Z.m_Ratio_is_below, (calK_fn (ok_Ratio_is_below Z b _) (hr.mono (by decide)) (kb_Ratio_is_below_2 Z) tk)⟩⟩) (nmOf_ne (by decide +kernel) (by decide +kernel)) (ea_cons (ev_var 7 (pv 7)) ea_nil) ek_nil) (ea_cons (ev_methN (m := "is_at_most") (ev_var 6 (pv 6)) (tb_1 ⟨⟨_, Z.cl_Ratio, Z.m_Ratio_is_at_most, (calK_fn (ok_Ratio_is_at_most Z b _) (hr.mono (by decide)) (kb_Ratio_is_at_most_2 Z) tk)⟩⟩) (nmOf_ne (by decide +kernel) (by decide +kernel)) (ea_cons (ev_var 7 (pv 7)) ea_nil) ek_nil) (ea_cons (ev_methN (m := "is_below") (ev_var 6 (pv 6)) (tb_1 ⟨⟨_, Z.cl_Ratio, Z.m_Ratio_is_below, (calK_fn (ok_Ratio_is_below Z b _) (hr.mono (by decide)) (kb_Ratio_is_below_2 Z) tk)⟩⟩) (nmOf_ne (by decide +kernel) (by decide +kernel)) (ea_cons (ev_var 3 (pv 3)) ea_nil) ek_nil) (ea_cons (ev_methN (m := "is_at_most") (ev_var 6 (pv 6)) (tb_1 ⟨⟨_, Z.cl_Ratio, Z.m_Ratio_is_at_most, (calK_fn (ok_Ratio_is_at_most Z b _) (hr.mono (by decide)) (kb_Ratio_is_at_most_2 Z) tk)⟩⟩) (nmOf_ne (by decide +kernel) (by decide +kernel)) (ea_cons (ev_var 3 (pv 3)) ea_nil) ek_nil) ea_nil))))))
  (ess_cons (es_if (et_w (etw_or (et_cmp (ov_ne hr.units) (ev_var 11 (pv 11)) (ev_lst (ea_cons (ev_cmp ov_lt (ev_var 9 (pv 9)) ev_int rfl) (ea_cons (ev_cmp ov_le (ev_var 9 (pv 9)) ev_int rfl) (ea_cons (ev_cmp ov_lt (ev_var 10 (pv 10)) ev_int rfl) (ea_cons (ev_cmp ov_le (ev_var 10 (pv 10)) ev_int rfl) ea_nil))))) rfl) (etw_or1 (et_cmp (ov_ne hr.units) (ev_comp (own := [("is_so", 12)]) rfl nd_law_right (ei_seq (ev_var 11 (pv 11))) (blk_of (N := N_law_right) (sc := defScope s_law_right) ⟨rfl, by decide +kernel, by decide +kernel, by decide +kernel, by decide +kernel⟩ rfl rfl) (by decide) (fun s H C cl fp => eg_name (pg_name nd_law_right rfl (.inl rfl))) (fun s H C cl fp => pts_one (et_w (etw_and (et_cmp ov_isnot (ev_var 12 (pv 12)) ev_bl rfl) (etw_and1 (et_cmp ov_isnot (ev_var 12 (pv 12)) ev_bl rfl))))) (fun s H C cl fp => ev_var 12 (pv 12))) (ev_lst ea_nil) rfl)))) (ess_one (es_ret ev_bl)) ess_nil)
  (ess_cons (es_if (et_w (etw_or (et_cmp (ov_ne hr.units) (ev_cmp (ov_ownEq hr.units (fw := tbOf [(0, viaM M_Ratio_eq [] [.p 0, .p 1])]) (okT := okR) (own1 (P := fun c F => OwnEqK _ _ _ c F) ⟨_, Z.m_Ratio_eq.at_, Z.m_Ratio_eq.fn, (calK_fn (ok_Ratio_eq Z b _) (hr.mono (by decide)) (kb_Ratio_eq_2 Z) tk)⟩) (okR_c Z _) okR_x (okR_n Z)) (ev_var 6 (pv 6)) (ev_var 7 (pv 7)) rfl) (ev_cmp (ov_eq hr.units) (ev_var 9 (pv 9)) ev_int rfl) rfl) (etw_or (et_cmp (ov_ne hr.units) (ev_cmp (ov_ownNe (fw := fun c => ([(0, M_Ratio_eq)] : List (Nat × Mv)).lookup c) (okT := okR) (own1 (P := fun c M => OwnNeK _ _ _ c M) ⟨Z.ne_Ratio, Z.in_Ratio.hm, _, _, _, _, Z.m_Ratio_eq.at_, Z.m_Ratio_eq.fn, ok_Ratio_eq Z b _, hr.mono (by decide), bd_eq Z, rfl⟩) tk (okR_c Z _) okR_x (okR_n Z)) (ev_var 6 (pv 6)) (ev_var 7 (pv 7)) rfl) (ev_cmp (ov_ne hr.units) (ev_var 9 (pv 9)) ev_int rfl) rfl) (etw_or (et_cmp (ov_ownEq hr.units (fw := tbOf [(0, viaM M_Ratio_eq [] [.p 0, .p 1])]) (okT := okR) (own1 (P := fun c F => OwnEqK _ _ _ c F) ⟨_, Z.m_Ratio_eq.at_, Z.m_Ratio_eq.fn, (calK_fn (ok_Ratio_eq Z b _) (hr.mono (by decide)) (kb_Ratio_eq_2 Z) tk)⟩) (okR_c Z _) okR_x (okR_n Z)) (ev_var 6 (pv 6)) (ev_var 3 (pv 3)) rfl) (etw_or1 (et_cmp (ov_ownEq hr.units (fw := tbOf [(0, viaM M_Ratio_eq [] [.p 0, .p 1])]) (okT := okR) (own1 (P := fun c F => OwnEqK _ _ _ c F) ⟨_, Z.m_Ratio_eq.at_, Z.m_Ratio_eq.fn, (calK_fn (ok_Ratio_eq Z b _) (hr.mono (by decide)) (kb_Ratio_eq_2 Z) tk)⟩) (okR_c Z _) okR_x (okR_n Z)) (ev_var 6 (pv 6)) (ev_tup (ea_cons (ev_attr (f := 0) rfl (ev_var 6 (pv 6))) (ea_cons (ev_attr (f := 1) rfl (ev_var 6 (pv 6))) ea_nil))) rfl)))))) (ess_one (es_ret ev_bl)) ess_nil)
  (ess_cons (es_set (i := 13) (fun h => ps_set nd_law_right rfl (.inl rfl) h) (ev_callBu (cv_sum rfl (OpV.or (ov_ownL (fw := tbOf [(0, viaM M_Ratio_add [] [.p 0, .p 1])]) (okT := okR) (own1 (P := fun c F => OwnOp _ _ _ .Add c F) ⟨Z.sf_Ratio, ⟨_, Z.o_add, Z.m_Ratio_add.fn, (calK_fn (ok_Ratio_add Z b _) ((Room.in1 hr).mono (by decide)) (kb_Ratio_add_2 Z) takes0)⟩, ⟨_, Z.or_add, .inr ⟨_, rfl⟩⟩⟩) (okR_c Z _) okR_x (okR_add Z)) (ov_ownR (rv := tbOf [(0, viaM M_Ratio_radd [] [.p 0, .p 1])]) (okT := okB) (own1 (P := fun c F => RevOp _ _ _ .Add c F) ⟨Z.sf_Ratio, ⟨_, Z.o_add⟩, ⟨_, Z.or_add, Z.m_Ratio_radd.fn, (calK_fn (ok_Ratio_radd Z b _) ((Room.in1 hr).mono (by decide)) (kb_Ratio_radd_2 Z) takes0)⟩⟩) (okB_add Z)))) (by rfl) Z.n_sum PyProof.Rows.Boot.«sum» (ea_cons (ev_lst (ea_cons (ev_var 6 (pv 6)) (ea_cons (ev_var 7 (pv 7)) ea_nil))) ea_nil)))
  (ess_one (es_ret (ev_and (ev_callN (calK_fn (ok_law_is Z b _) (hr.mono (by decide)) (kb_law_is_3 Z) tk) (by rfl) Z.g_law_is Z.F_law_is.kp (ea_cons (ev_var 13 (pv 13)) (ea_cons (ev_op ov_add (ev_op ov_mul (ev_var 1 (pv 1)) (ev_var 5 (pv 5))) (ev_op ov_mul (ev_var 2 (pv 2)) (ev_var 4 (pv 4)))) (ea_cons (ev_op ov_mul (ev_var 4 (pv 4)) (ev_var 5 (pv 5))) ea_nil))) ek_nil) (ev_and (ev_cmp (ov_ownEq hr.units (fw := tbOf [(0, viaM M_Ratio_eq [] [.p 0, .p 1])]) (okT := okR) (own1 (P := fun c F => OwnEqK _ _ _ c F) ⟨_, Z.m_Ratio_eq.at_, Z.m_Ratio_eq.fn, (calK_fn (ok_Ratio_eq Z b _) (hr.mono (by decide)) (kb_Ratio_eq_2 Z) tk)⟩) (okR_c Z _) okR_x (okR_n Z)) (ev_callN (calK_ins (c := 0) Z.mk_Ratio (ok_Ratio_init Z b _) (hr.mono (by decide)) (kb_Ratio_init_3 Z) tk) (by rfl) Z.g_Ratio Z.k_Ratio (ea_cons (ev_attr (f := 0) rfl (ev_var 6 (pv 6))) (ea_cons (ev_attr (f := 1) rfl (ev_var 6 (pv 6))) ea_nil)) ek_nil) (ev_var 6 (pv 6)) rfl) (ev_bool1 (ev_callN (calK_fn (ok_law_refused_right Z b _ hl) (hr.mono (by decide)) (kb_law_refused_right_2 Z) tk) (by rfl) Z.g_law_refused_right Z.F_law_refused_right.kp (ea_cons (ev_var 0 (pv 0)) (ea_cons (ev_var 6 (pv 6)) ea_nil)) ek_nil))))))))))))))))))))

theorem ok_law (Z : Facts K mg B) (b : Bs mg base B) (l : Lm) (hl : l = Lm.no) : FnOk P w K mg base (L2.CX P w) 13 B.a_law B.fd_law ["script"] (spM ((T0 Z).setL l) 1 M_law) :=
  fn_el (N := N_law) (k := 12) (b := b_law) Z.F_law sc_law fun cdv A outer s H E hr tk => ess_cons (es_set (i := 1) (fun h => ps_set nd_law rfl (.inr rfl) h) (ev_callN (calK_fn (ok_law_well Z b _) (hr.mono (by decide)) (kb_law_well_1 Z) tk) (by rfl) Z.g_law_well Z.F_law_well.kp (ea_cons (ev_var 0 (pv 0)) ea_nil) ek_nil))
  (ess_one (es_ret (ev_cmp (ov_eq hr.units) (ev_comp (own := [("turn", 2)]) rfl nd_law (ei_range1 (by rfl) Z.n_range (ea_cons ev_int ea_nil)) (blk_of (N := N_law) (sc := defScope s_law) ⟨rfl, by decide +kernel, by decide +kernel, by decide +kernel, by decide +kernel⟩ rfl rfl) (by decide) (fun s H C cl fp => eg_name (pg_name nd_law rfl (.inl rfl))) (fun s H C cl fp => pts_one (et_not (et_val (ev_callN (calK_fn (ok_law_right Z b _ hl) (hr.mono (by decide)) (kb_law_right_1 Z) takes0) (by rfl) Z.g_law_right Z.F_law_right.kp (ea_cons (ev_var 1 (pv 1)) ea_nil) ek_nil) (fun _ => rfl)))) (fun s H C cl fp => ev_var 2 (pv 2))) (ev_lst ea_nil) rfl)))

end
/-! ### the facts by checks, the end -/
def faL : List He.Fa := [.glo "is_integer", .glo "top_of", .glo "bottom_of", .meth "Ratio" "__add__", .meth "Ratio" "__radd__", .meth "Ratio" "__sub__", .meth "Ratio" "__neg__", .meth "Ratio" "__rsub__", .meth "Ratio" "__mul__", .meth "Ratio" "__rmul__", .meth "Ratio" "__eq__", .meth "Ratio" "over", .meth "Ratio" "is_below", .meth "Ratio" "is_at_most", .glo "_law_well", .glo "_law_draw", .glo "_law_one", .glo "_law_gcd", .glo "_law_lowest", .glo "_law_number", .glo "_law_is", .glo "_law_heard", .glo "_law_refused_right", .glo "_law_right", .glo "law", .glo "Ratio", .cls "Ratio", .mkr "Ratio", .keep "Ratio", .noat "Ratio" "top", .noat "Ratio" "bottom", .glo "ShareError", .glo "BadNumber", .noat "BadNumber" "value", .glo "BadRatio", .noat "BadRatio" "value", .free "isinstance", .free "int", .free "bool", .free "abs", .free "len", .free "range", .free "sum"]
def fnL : List He.DefD := [
  ⟨("is_integer", none), "is_integer", "is_integer", defArgs s_is_integer, defBody s_is_integer, defScope s_is_integer, [], []⟩,
  ⟨("top_of", none), "top_of", "top_of", defArgs s_top_of, defBody s_top_of, defScope s_top_of, [], []⟩,
  ⟨("bottom_of", none), "bottom_of", "bottom_of", defArgs s_bottom_of, defBody s_bottom_of, defScope s_bottom_of, [], []⟩,
  ⟨("Ratio", some "__init__"), "__init__", "Ratio.__init__", defArgs s_Ratio_init, defBody s_Ratio_init, defScope s_Ratio_init, [.int 1], []⟩,
  ⟨("Ratio", some "__add__"), "__add__", "Ratio.__add__", defArgs s_Ratio_add, defBody s_Ratio_add, defScope s_Ratio_add, [], []⟩,
  ⟨("Ratio", some "__radd__"), "__radd__", "Ratio.__radd__", defArgs s_Ratio_radd, defBody s_Ratio_radd, defScope s_Ratio_radd, [], []⟩,
  ⟨("Ratio", some "__sub__"), "__sub__", "Ratio.__sub__", defArgs s_Ratio_sub, defBody s_Ratio_sub, defScope s_Ratio_sub, [], []⟩,
  ⟨("Ratio", some "__neg__"), "__neg__", "Ratio.__neg__", defArgs s_Ratio_neg, defBody s_Ratio_neg, defScope s_Ratio_neg, [], []⟩,
  ⟨("Ratio", some "__rsub__"), "__rsub__", "Ratio.__rsub__", defArgs s_Ratio_rsub, defBody s_Ratio_rsub, defScope s_Ratio_rsub, [], []⟩,
  ⟨("Ratio", some "__mul__"), "__mul__", "Ratio.__mul__", defArgs s_Ratio_mul, defBody s_Ratio_mul, defScope s_Ratio_mul, [], []⟩,
  ⟨("Ratio", some "__rmul__"), "__rmul__", "Ratio.__rmul__", defArgs s_Ratio_rmul, defBody s_Ratio_rmul, defScope s_Ratio_rmul, [], []⟩,
  ⟨("Ratio", some "__eq__"), "__eq__", "Ratio.__eq__", defArgs s_Ratio_eq, defBody s_Ratio_eq, defScope s_Ratio_eq, [], []⟩,
  ⟨("Ratio", some "over"), "over", "Ratio.over", defArgs s_Ratio_over, defBody s_Ratio_over, defScope s_Ratio_over, [], []⟩,
  ⟨("Ratio", some "is_below"), "is_below", "Ratio.is_below", defArgs s_Ratio_is_below, defBody s_Ratio_is_below, defScope s_Ratio_is_below, [], []⟩,
  ⟨("Ratio", some "is_at_most"), "is_at_most", "Ratio.is_at_most", defArgs s_Ratio_is_at_most, defBody s_Ratio_is_at_most, defScope s_Ratio_is_at_most, [], []⟩,
  ⟨("_law_well", none), "_law_well", "_law_well", defArgs s_law_well, defBody s_law_well, defScope s_law_well, [], []⟩,
  ⟨("_law_draw", none), "_law_draw", "_law_draw", defArgs s_law_draw, defBody s_law_draw, defScope s_law_draw, [], []⟩,
  ⟨("_law_one", none), "_law_one", "_law_one", defArgs s_law_one, defBody s_law_one, defScope s_law_one, [], []⟩,
  ⟨("_law_gcd", none), "_law_gcd", "_law_gcd", defArgs s_law_gcd, defBody s_law_gcd, defScope s_law_gcd, [], []⟩,
  ⟨("_law_lowest", none), "_law_lowest", "_law_lowest", defArgs s_law_lowest, defBody s_law_lowest, defScope s_law_lowest, [], []⟩,
  ⟨("_law_number", none), "_law_number", "_law_number", defArgs s_law_number, defBody s_law_number, defScope s_law_number, [], []⟩,
  ⟨("_law_is", none), "_law_is", "_law_is", defArgs s_law_is, defBody s_law_is, defScope s_law_is, [], []⟩,
  ⟨("_law_heard", none), "_law_heard", "_law_heard", defArgs s_law_heard, defBody s_law_heard, defScope s_law_heard, [], []⟩,
  ⟨("_law_refused_right", none), "_law_refused_right", "_law_refused_right", defArgs s_law_refused_right, defBody s_law_refused_right, defScope s_law_refused_right, [], []⟩,
  ⟨("_law_right", none), "_law_right", "_law_right", defArgs s_law_right, defBody s_law_right, defScope s_law_right, [], []⟩,
  ⟨("law", none), "law", "law", defArgs s_law, defBody s_law, defScope s_law, [], []⟩,
  ⟨("BadNumber", some "__init__"), "__init__", "BadNumber.__init__", defArgs s_BadNumber_init, defBody s_BadNumber_init, defScope s_BadNumber_init, [], []⟩,
  ⟨("BadRatio", some "__init__"), "__init__", "BadRatio.__init__", defArgs s_BadRatio_init, defBody s_BadRatio_init, defScope s_BadRatio_init, [], []⟩]
def chkL (K : PySem.W.Frag) : List Bool := [
  codeB K (He.fAd K ("_law_refused_right", none)),
  insB K (He.ga K "Ratio"),
  oexB K (He.ga K "ShareError"),
  xfB K (He.ga K "ShareError"),
  excB K (He.ga K "ShareError"),
  decide (PySem.W.findIn K (.ref (He.ga K "BadNumber")) "__init__" = some (some (.ref (He.fAd K ("BadNumber", some "__init__"))))),
  decide (PySem.W.typeIn K (.ref (He.fAd K ("BadNumber", some "__init__"))) = some (.type "function")),
  oexB K (He.ga K "BadNumber"),
  xfB K (He.ga K "BadNumber"),
  excB K (He.ga K "BadNumber"),
  decide (PySem.W.findIn K (.ref (He.ga K "BadRatio")) "__init__" = some (some (.ref (He.fAd K ("BadRatio", some "__init__"))))),
  decide (PySem.W.typeIn K (.ref (He.fAd K ("BadRatio", some "__init__"))) = some (.type "function")),
  oexB K (He.ga K "BadRatio"),
  xfB K (He.ga K "BadRatio"),
  excB K (He.ga K "BadRatio"),
  decide (PySem.W.nsIn K mainGlobals "gcd" = some (some (.builtin "math.gcd"))),
  decide (PySem.W.kitOne K (.type "int") (.type "int") = some true),
  decide (PySem.W.kitOne K (.type "bool") (.type "int") = some true),
  decide (PySem.W.kitOne K (.type "NoneType") (.type "int") = some false),
  decide (PySem.W.kitOne K (.type "str") (.type "int") = some false),
  decide (PySem.W.kitOne K (.type "tuple") (.type "int") = some false),
  decide (PySem.W.kitOne K (.type "list") (.type "int") = some false),
  decide (PySem.W.kitOne K (.type "dict") (.type "int") = some false),
  decide (PySem.W.kitOne K (.type "int") (.type "bool") = some false),
  decide (PySem.W.kitOne K (.type "bool") (.type "bool") = some true),
  decide (PySem.W.kitOne K (.type "NoneType") (.type "bool") = some false),
  decide (PySem.W.kitOne K (.type "str") (.type "bool") = some false),
  decide (PySem.W.kitOne K (.type "tuple") (.type "bool") = some false),
  decide (PySem.W.kitOne K (.type "list") (.type "bool") = some false),
  decide (PySem.W.kitOne K (.type "dict") (.type "bool") = some false),
  decide (PySem.W.kitOne K (.ref (He.ga K "Ratio")) (.ref (He.ga K "Ratio")) = some true),
  decide (PySem.W.kitOne K (.type "int") (.ref (He.ga K "Ratio")) = some false),
  decide (PySem.W.kitOne K (.type "bool") (.ref (He.ga K "Ratio")) = some false),
  decide (PySem.W.kitOne K (.type "NoneType") (.ref (He.ga K "Ratio")) = some false),
  decide (PySem.W.kitOne K (.type "str") (.ref (He.ga K "Ratio")) = some false),
  decide (PySem.W.kitOne K (.type "tuple") (.ref (He.ga K "Ratio")) = some false),
  decide (PySem.W.kitOne K (.type "list") (.ref (He.ga K "Ratio")) = some false),
  decide (PySem.W.kitOne K (.type "dict") (.ref (He.ga K "Ratio")) = some false),
  decide (PySem.W.kitOne K (.ref (He.ga K "Ratio")) (.type "int") = some false),
  decide (PySem.W.kitOne K (.ref (He.ga K "BadNumber")) (.ref (He.ga K "BadNumber")) = some true),
  decide (PySem.W.kitOne K (.ref (He.ga K "BadRatio")) (.ref (He.ga K "BadNumber")) = some false),
  decide (PySem.W.kitOne K (.ref (He.ga K "BadNumber")) (.ref (He.ga K "BadRatio")) = some false),
  decide (PySem.W.kitOne K (.ref (He.ga K "BadRatio")) (.ref (He.ga K "BadRatio")) = some true),
  decide (PySem.W.selfFirst K (He.ga K "Ratio") = true),
  decide (PySem.W.findIn K (.ref (He.ga K "Ratio")) "__ne__" = some (some (.builtin "object.__ne__"))),
  decide (PySem.W.findIn K (.ref (He.ga K "Ratio")) (PySem.dunder "add") = some (some (.ref (He.fAd K ("Ratio", some "__add__"))))),
  decide (PySem.W.findIn K (.ref (He.ga K "Ratio")) (PySem.dunder "sub") = some (some (.ref (He.fAd K ("Ratio", some "__sub__"))))),
  decide (PySem.W.findIn K (.ref (He.ga K "Ratio")) (PySem.dunder "mul") = some (some (.ref (He.fAd K ("Ratio", some "__mul__"))))),
  decide (PySem.W.findIn K (.ref (He.ga K "Ratio")) (dunderR "add") = some (some (.ref (He.fAd K ("Ratio", some "__radd__"))))),
  decide (PySem.W.findIn K (.ref (He.ga K "Ratio")) (dunderR "sub") = some (some (.ref (He.fAd K ("Ratio", some "__rsub__"))))),
  decide (PySem.W.findIn K (.ref (He.ga K "Ratio")) (dunderR "mul") = some (some (.ref (He.fAd K ("Ratio", some "__rmul__"))))),
  decide (PySem.W.subIn K (.type "int") (.ref (He.ga K "Ratio")) = some false),
  decide (PySem.W.subIn K (.type "bool") (.ref (He.ga K "Ratio")) = some false),
  decide (PySem.W.subIn K (.type "NoneType") (.ref (He.ga K "Ratio")) = some false),
  decide (PySem.W.subIn K (.type "str") (.ref (He.ga K "Ratio")) = some false),
  decide (PySem.W.subIn K (.type "tuple") (.ref (He.ga K "Ratio")) = some false),
  decide (PySem.W.subIn K (.type "list") (.ref (He.ga K "Ratio")) = some false),
  decide (PySem.W.subIn K (.type "dict") (.ref (He.ga K "Ratio")) = some false),
  decide (PySem.W.subIn K (.ref (He.ga K "Ratio")) (.type "int") = some false),
  decide (PySem.W.subIn K (.ref (He.ga K "Ratio")) (.type "bool") = some false),
  decide (PySem.W.subIn K (.ref (He.ga K "Ratio")) (.type "NoneType") = some false),
  decide (PySem.W.subIn K (.ref (He.ga K "Ratio")) (.type "str") = some false),
  decide (PySem.W.subIn K (.ref (He.ga K "Ratio")) (.type "tuple") = some false),
  decide (PySem.W.subIn K (.ref (He.ga K "Ratio")) (.type "list") = some false),
  decide (PySem.W.subIn K (.ref (He.ga K "Ratio")) (.type "dict") = some false),
  decide (PySem.W.exmOne K (.ref (He.ga K "BadNumber")) (.ref (He.ga K "ShareError")) = some true),
  decide (PySem.W.exmOne K (.ref (He.ga K "BadRatio")) (.ref (He.ga K "ShareError")) = some true)]
theorem facts {K : PySem.W.Frag} {h : Heap} {mg : Str → Option Value} {ct : Addr} (X : K.In h) (G : h.Ns mainGlobals mg) (c : He.SaysD faL fnL K) (e : (chkL K).all id = true) : ∃ B : Adr, Facts K mg B ∧ B.a_law = He.ga K "law" ∧ B.cc = codeOf K (He.fAd K ("_law_refused_right", none)) ∧ B.ct = ct := by
  obtain ⟨fd_is_integer, F_is_integer⟩ := c.def_ 0 rfl
  obtain ⟨fd_top_of, F_top_of⟩ := c.def_ 1 rfl
  obtain ⟨fd_bottom_of, F_bottom_of⟩ := c.def_ 2 rfl
  obtain ⟨fd_Ratio_init, F_Ratio_init⟩ := c.def_ 3 rfl
  obtain ⟨fd_Ratio_add, F_Ratio_add⟩ := c.def_ 4 rfl
  obtain ⟨fd_Ratio_radd, F_Ratio_radd⟩ := c.def_ 5 rfl
  obtain ⟨fd_Ratio_sub, F_Ratio_sub⟩ := c.def_ 6 rfl
  obtain ⟨fd_Ratio_neg, F_Ratio_neg⟩ := c.def_ 7 rfl
  obtain ⟨fd_Ratio_rsub, F_Ratio_rsub⟩ := c.def_ 8 rfl
  obtain ⟨fd_Ratio_mul, F_Ratio_mul⟩ := c.def_ 9 rfl
  obtain ⟨fd_Ratio_rmul, F_Ratio_rmul⟩ := c.def_ 10 rfl
  obtain ⟨fd_Ratio_eq, F_Ratio_eq⟩ := c.def_ 11 rfl
  obtain ⟨fd_Ratio_over, F_Ratio_over⟩ := c.def_ 12 rfl
  obtain ⟨fd_Ratio_is_below, F_Ratio_is_below⟩ := c.def_ 13 rfl
  obtain ⟨fd_Ratio_is_at_most, F_Ratio_is_at_most⟩ := c.def_ 14 rfl
  obtain ⟨fd_law_well, F_law_well⟩ := c.def_ 15 rfl
  obtain ⟨fd_law_draw, F_law_draw⟩ := c.def_ 16 rfl
  obtain ⟨fd_law_one, F_law_one⟩ := c.def_ 17 rfl
  obtain ⟨fd_law_gcd, F_law_gcd⟩ := c.def_ 18 rfl
  obtain ⟨fd_law_lowest, F_law_lowest⟩ := c.def_ 19 rfl
  obtain ⟨fd_law_number, F_law_number⟩ := c.def_ 20 rfl
  obtain ⟨fd_law_is, F_law_is⟩ := c.def_ 21 rfl
  obtain ⟨fd_law_heard, F_law_heard⟩ := c.def_ 22 rfl
  obtain ⟨fd_law_refused_right, F_law_refused_right⟩ := c.def_ 23 rfl
  obtain ⟨fd_law_right, F_law_right⟩ := c.def_ 24 rfl
  obtain ⟨fd_law, F_law⟩ := c.def_ 25 rfl
  obtain ⟨fd_BadNumber_init, F_BadNumber_init⟩ := c.def_ 26 rfl
  obtain ⟨fd_BadRatio_init, F_BadRatio_init⟩ := c.def_ 27 rfl
  exact ⟨{ a_is_integer := He.fAd K ("is_integer", none), fd_is_integer := fd_is_integer, a_top_of := He.fAd K ("top_of", none), fd_top_of := fd_top_of, a_bottom_of := He.fAd K ("bottom_of", none), fd_bottom_of := fd_bottom_of, a_Ratio_init := He.fAd K ("Ratio", some "__init__"), fd_Ratio_init := fd_Ratio_init, a_Ratio_add := He.fAd K ("Ratio", some "__add__"), fd_Ratio_add := fd_Ratio_add, a_Ratio_radd := He.fAd K ("Ratio", some "__radd__"), fd_Ratio_radd := fd_Ratio_radd, a_Ratio_sub := He.fAd K ("Ratio", some "__sub__"), fd_Ratio_sub := fd_Ratio_sub, a_Ratio_neg := He.fAd K ("Ratio", some "__neg__"), fd_Ratio_neg := fd_Ratio_neg, a_Ratio_rsub := He.fAd K ("Ratio", some "__rsub__"), fd_Ratio_rsub := fd_Ratio_rsub, a_Ratio_mul := He.fAd K ("Ratio", some "__mul__"), fd_Ratio_mul := fd_Ratio_mul, a_Ratio_rmul := He.fAd K ("Ratio", some "__rmul__"), fd_Ratio_rmul := fd_Ratio_rmul, a_Ratio_eq := He.fAd K ("Ratio", some "__eq__"), fd_Ratio_eq := fd_Ratio_eq, a_Ratio_over := He.fAd K ("Ratio", some "over"), fd_Ratio_over := fd_Ratio_over, a_Ratio_is_below := He.fAd K ("Ratio", some "is_below"), fd_Ratio_is_below := fd_Ratio_is_below, a_Ratio_is_at_most := He.fAd K ("Ratio", some "is_at_most"), fd_Ratio_is_at_most := fd_Ratio_is_at_most, a_law_well := He.fAd K ("_law_well", none), fd_law_well := fd_law_well, a_law_draw := He.fAd K ("_law_draw", none), fd_law_draw := fd_law_draw, a_law_one := He.fAd K ("_law_one", none), fd_law_one := fd_law_one, a_law_gcd := He.fAd K ("_law_gcd", none), fd_law_gcd := fd_law_gcd, a_law_lowest := He.fAd K ("_law_lowest", none), fd_law_lowest := fd_law_lowest, a_law_number := He.fAd K ("_law_number", none), fd_law_number := fd_law_number, a_law_is := He.fAd K ("_law_is", none), fd_law_is := fd_law_is, a_law_heard := He.fAd K ("_law_heard", none), fd_law_heard := fd_law_heard, a_law_refused_right := He.fAd K ("_law_refused_right", none), fd_law_refused_right := fd_law_refused_right, a_law_right := He.fAd K ("_law_right", none), fd_law_right := fd_law_right, a_law := He.fAd K ("law", none), fd_law := fd_law, a_BadNumber_init := He.fAd K ("BadNumber", some "__init__"), fd_BadNumber_init := fd_BadNumber_init, a_BadRatio_init := He.fAd K ("BadRatio", some "__init__"), fd_BadRatio_init := fd_BadRatio_init, c_Ratio := (He.ga K "Ratio"), c_ShareError := (He.ga K "ShareError"), c_BadNumber := (He.ga K "BadNumber"), c_BadRatio := (He.ga K "BadRatio"), cc := codeOf K (He.fAd K ("_law_refused_right", none)), ct := ct }, {
    F_is_integer := F_is_integer,
    g_is_integer := He.glo_ok X G (c.fact 0 rfl),
    F_top_of := F_top_of,
    g_top_of := He.glo_ok X G (c.fact 1 rfl),
    F_bottom_of := F_bottom_of,
    g_bottom_of := He.glo_ok X G (c.fact 2 rfl),
    F_Ratio_init := F_Ratio_init,
    F_Ratio_add := F_Ratio_add,
    m_Ratio_add := He.meth_ok (c.fact 3 rfl),
    F_Ratio_radd := F_Ratio_radd,
    m_Ratio_radd := He.meth_ok (c.fact 4 rfl),
    F_Ratio_sub := F_Ratio_sub,
    m_Ratio_sub := He.meth_ok (c.fact 5 rfl),
    F_Ratio_neg := F_Ratio_neg,
    m_Ratio_neg := He.meth_ok (c.fact 6 rfl),
    F_Ratio_rsub := F_Ratio_rsub,
    m_Ratio_rsub := He.meth_ok (c.fact 7 rfl),
    F_Ratio_mul := F_Ratio_mul,
    m_Ratio_mul := He.meth_ok (c.fact 8 rfl),
    F_Ratio_rmul := F_Ratio_rmul,
    m_Ratio_rmul := He.meth_ok (c.fact 9 rfl),
    F_Ratio_eq := F_Ratio_eq,
    m_Ratio_eq := He.meth_ok (c.fact 10 rfl),
    F_Ratio_over := F_Ratio_over,
    m_Ratio_over := He.meth_ok (c.fact 11 rfl),
    F_Ratio_is_below := F_Ratio_is_below,
    m_Ratio_is_below := He.meth_ok (c.fact 12 rfl),
    F_Ratio_is_at_most := F_Ratio_is_at_most,
    m_Ratio_is_at_most := He.meth_ok (c.fact 13 rfl),
    F_law_well := F_law_well,
    g_law_well := He.glo_ok X G (c.fact 14 rfl),
    F_law_draw := F_law_draw,
    g_law_draw := He.glo_ok X G (c.fact 15 rfl),
    F_law_one := F_law_one,
    g_law_one := He.glo_ok X G (c.fact 16 rfl),
    F_law_gcd := F_law_gcd,
    g_law_gcd := He.glo_ok X G (c.fact 17 rfl),
    F_law_lowest := F_law_lowest,
    g_law_lowest := He.glo_ok X G (c.fact 18 rfl),
    F_law_number := F_law_number,
    g_law_number := He.glo_ok X G (c.fact 19 rfl),
    F_law_is := F_law_is,
    g_law_is := He.glo_ok X G (c.fact 20 rfl),
    F_law_heard := F_law_heard,
    g_law_heard := He.glo_ok X G (c.fact 21 rfl),
    F_law_refused_right := F_law_refused_right,
    FC_law_refused_right := FunC.of F_law_refused_right (chk e 0 rfl),
    g_law_refused_right := He.glo_ok X G (c.fact 22 rfl),
    F_law_right := F_law_right,
    g_law_right := He.glo_ok X G (c.fact 23 rfl),
    F_law := F_law,
    g_law := He.glo_ok X G (c.fact 24 rfl),
    F_BadNumber_init := F_BadNumber_init,
    F_BadRatio_init := F_BadRatio_init,
    g_Ratio := He.glo_ok X G (c.fact 25 rfl),
    cl_Ratio := (He.cls_ok (c.fact 26 rfl)),
    in_Ratio := insB_ok (He.cls_ok (c.fact 26 rfl)) (chk e 1 rfl),
    mk_Ratio := He.mkr_ok (c.fact 27 rfl),
    k_Ratio := He.keep_ok (c.fact 28 rfl),
    na_Ratio_top := He.noat_ok (c.fact 29 rfl),
    na_Ratio_bottom := He.noat_ok (c.fact 30 rfl),
    g_ShareError := He.glo_ok X G (c.fact 31 rfl),
    ox_ShareError := oexB_ok (chk e 2 rfl),
    xf_ShareError := xfB_ok (chk e 3 rfl),
    xc_ShareError := excB_ok (chk e 4 rfl),
    g_BadNumber := He.glo_ok X G (c.fact 32 rfl),
    iC_BadNumber := (dec e 5 rfl),
    tI_BadNumber := (dec e 6 rfl),
    ox_BadNumber := oexB_ok (chk e 7 rfl),
    xf_BadNumber := xfB_ok (chk e 8 rfl),
    xc_BadNumber := excB_ok (chk e 9 rfl),
    na_BadNumber_value := He.noat_ok (c.fact 33 rfl),
    g_BadRatio := He.glo_ok X G (c.fact 34 rfl),
    iC_BadRatio := (dec e 10 rfl),
    tI_BadRatio := (dec e 11 rfl),
    ox_BadRatio := oexB_ok (chk e 12 rfl),
    xf_BadRatio := xfB_ok (chk e 13 rfl),
    xc_BadRatio := excB_ok (chk e 14 rfl),
    na_BadRatio_value := He.noat_ok (c.fact 35 rfl),
    n_isinstance := He.free_ok X G (c.fact 36 rfl),
    n_int := He.free_ok X G (c.fact 37 rfl),
    n_bool := He.free_ok X G (c.fact 38 rfl),
    n_abs := He.free_ok X G (c.fact 39 rfl),
    n_len := He.free_ok X G (c.fact 40 rfl),
    n_range := He.free_ok X G (c.fact 41 rfl),
    n_sum := He.free_ok X G (c.fact 42 rfl),
    g_gcd := PySem.W.mg_of X G (dec e 15 rfl),
    isi_0 := (dec e 16 rfl),
    isi_1 := (dec e 17 rfl),
    isi_2 := (dec e 18 rfl),
    isi_3 := (dec e 19 rfl),
    isi_4 := (dec e 20 rfl),
    isi_5 := (dec e 21 rfl),
    isi_6 := (dec e 22 rfl),
    isi_7 := (dec e 23 rfl),
    isi_8 := (dec e 24 rfl),
    isi_9 := (dec e 25 rfl),
    isi_10 := (dec e 26 rfl),
    isi_11 := (dec e 27 rfl),
    isi_12 := (dec e 28 rfl),
    isi_13 := (dec e 29 rfl),
    isi_14 := (dec e 30 rfl),
    isi_15 := (dec e 31 rfl),
    isi_16 := (dec e 32 rfl),
    isi_17 := (dec e 33 rfl),
    isi_18 := (dec e 34 rfl),
    isi_19 := (dec e 35 rfl),
    isi_20 := (dec e 36 rfl),
    isi_21 := (dec e 37 rfl),
    isi_22 := (dec e 38 rfl),
    isi_23 := (dec e 39 rfl),
    isi_24 := (dec e 40 rfl),
    isi_25 := (dec e 41 rfl),
    isi_26 := (dec e 42 rfl),
    sf_Ratio := (dec e 43 rfl),
    ne_Ratio := (dec e 44 rfl),
    o_add := (dec e 45 rfl),
    o_sub := (dec e 46 rfl),
    o_mul := (dec e 47 rfl),
    or_add := (dec e 48 rfl),
    or_sub := (dec e 49 rfl),
    or_mul := (dec e 50 rfl),
    sub_int := (dec e 51 rfl),
    sub_bool := (dec e 52 rfl),
    sub_NoneType := (dec e 53 rfl),
    sub_str := (dec e 54 rfl),
    sub_tuple := (dec e 55 rfl),
    sub_list := (dec e 56 rfl),
    sub_dict := (dec e 57 rfl),
    sup_int := (dec e 58 rfl),
    sup_bool := (dec e 59 rfl),
    sup_NoneType := (dec e 60 rfl),
    sup_str := (dec e 61 rfl),
    sup_tuple := (dec e 62 rfl),
    sup_list := (dec e 63 rfl),
    sup_dict := (dec e 64 rfl),
    xm_2 := (dec e 65 rfl),
    xm_3 := (dec e 66 rfl) }, rfl, rfl, rfl⟩
theorem law_at {l : PySem.W.OpenLaw} {w : World} {K : PySem.W.Frag} {h : Heap} {mg : Str → Option Value} {fa ct : Addr} (LT : ∀ ns : List Int, ns.length ≤ 63 → (∀ z ∈ ns, Builtin.Int.intBits z ≤ 1048576) → ∃ st, M_law [.lst (ns.map .int)] [] = some (.ok (.bl true), st)) (X : K.In h) (G : h.Ns mainGlobals mg) (hfa : mg "law" = some (.ref fa)) (c : He.SaysD faL fnL K) (e : (chkL K).all id = true)
    (hT : h.get? ct = some { cls := .none, data := .fields #[] }) (nT : K.lookup ct = none) (cd : PySem.W.codeHdIn K (codeOf K (He.fAd K ("_law_refused_right", none))) ct = true) : LamX.LawAtS l w K (L2.CX l.prog w) 13 63 "script" mg fa h := by
  obtain ⟨B, Z, e1, e2, e3⟩ := facts (ct := ct) X G c e
  have e4 : fa = B.a_law := by
    have := hfa.symm.trans Z.g_law
    simpa using this
  subst e4 e3
  rw [← e2] at cd
  refine ⟨B.fd_law, [(B.cc, B.ct)], spM ((T0 Z).setL Lm.no) 1 M_law, fun p hp => ?_, fun p hp => ?_, fun p hp => ?_, fun s u => ?_, fun H a ns hl hb tb hS => ?_, fun base _ _ tb => ok_law Z ⟨tb (B.cc, B.ct) (List.mem_singleton.mpr rfl)⟩ Lm.no rfl⟩
  · rw [List.mem_singleton.mp hp]; exact hT
  · rw [List.mem_singleton.mp hp]; exact nT
  · rw [List.mem_singleton.mp hp]; exact PySem.W.codeHd_of_K X cd
  · exact (FunD.bindsA (ps := ["script"]) Z.F_law fun _ _ _ _ _ _ us hl => match us, hl with | [_], _ => rfl) s [u] rfl
  · obtain ⟨st, hst⟩ := LT ns hl hb
    exact law_sp (T := (T0 Z).setL Lm.no) hS (fun p hp => by rw [List.mem_singleton.mp hp]; exact LamX.TabS.nil (tb _ (List.mem_singleton.mpr rfl))) rfl hst
end K01

set_option Elab.async false
set_option linter.all false
set_option maxRecDepth 100000
set_option maxHeartbeats 1000000
/-! K01P: the plain law of k01. -/
namespace K01
open PySem EL
def rat (t b : Int) : LV := .ins 0 [(0, .int t), (1, .int b)]
theorem isint_int (i : Int) (st : Sto) : M_is_integer [.int i] st = some (.ok (.bl true), st) := rfl
theorem isint_bl (i : Bool) (st : Sto) : M_is_integer [.bl i] st = some (.ok (.bl false), st) := rfl
theorem isint_non (st : Sto) : M_is_integer [.non] st = some (.ok (.bl false), st) := rfl
theorem isint_str (z : Str) (st : Sto) : M_is_integer [.str z] st = some (.ok (.bl false), st) := rfl
theorem isint_tup (z : List LV) (st : Sto) : M_is_integer [.tup z] st = some (.ok (.bl false), st) := rfl
theorem top_rat (t b : Int) (st : Sto) : M_top_of [rat t b] st = some (.ok (.int t), st) := rfl
theorem top_int (t : Int) (st : Sto) : M_top_of [.int t] st = some (.ok (.int t), st) := rfl
theorem top_non (st : Sto) : M_top_of [.non] st = some (.ex 3 [(2, .non)], st) := rfl
theorem bottom_rat (t b : Int) (st : Sto) : M_bottom_of [rat t b] st = some (.ok (.int b), st) := rfl
theorem bottom_int (t : Int) (st : Sto) : M_bottom_of [.int t] st = some (.ok (.int 1), st) := rfl
/-! ### sizes -/
def Sm (n : Nat) (i : Int) : Prop := i.natAbs < 2 ^ n
theorem Sm.mono {n m : Nat} {i : Int} (h : Sm n i) (l : n ≤ m) : Sm m i := Nat.lt_of_lt_of_le h (Nat.pow_le_pow_right (by decide) l)
theorem Sm.mul {n m : Nat} {i j : Int} (h : Sm n i) (l : Sm m j) : Sm (n + m) (i * j) := by
  unfold Sm at *; rw [Int.natAbs_mul, Nat.pow_add]
  exact Nat.mul_lt_mul'' h l
theorem Sm.add {n m : Nat} {i j : Int} (h : Sm n i) (l : Sm m j) : Sm (max n m + 1) (i + j) := by
  have a := h.mono (Nat.le_max_left n m); have b := l.mono (Nat.le_max_right n m)
  unfold Sm at *; rw [Nat.pow_succ]
  have := Int.natAbs_add_le i j
  omega
theorem Sm.neg {n : Nat} {i : Int} (h : Sm n i) : Sm n (-i) := by unfold Sm at *; rw [Int.natAbs_neg]; exact h
theorem Sm.sub {n m : Nat} {i j : Int} (h : Sm n i) (l : Sm m j) : Sm (max n m + 1) (i - j) := by
  rw [Int.sub_eq_add_neg]; exact h.add l.neg
theorem Sm.le {n : Nat} {i j : Int} (h : Sm n i) (l : j.natAbs ≤ i.natAbs) : Sm n j := Nat.lt_of_le_of_lt l h
theorem Sm.log {n : Nat} {i : Int} (h : Sm n i) (l : 0 < n) : i.natAbs.log2 < n := by
  by_cases z : i.natAbs = 0
  · rw [z]; exact l
  · exact (Nat.log2_lt z).mpr h
theorem mulOk_of {n m : Nat} {i j : Int} (h : Sm n i) (l : Sm m j) (o : n + m < 900000) : mulOk i j = true := by
  unfold mulOk
  have a := (h.mono (Nat.le_succ n)).log (Nat.succ_pos n)
  have b := (l.mono (Nat.le_succ m)).log (Nat.succ_pos m)
  have : i.natAbs.log2 + j.natAbs.log2 < 1000000 := by omega
  simp [this]
theorem divOk_of {n : Nat} {i : Int} (h : Sm n i) (z : i ≠ 0) (o : n < 8000) : divOk i = true := by
  unfold divOk
  have a := (h.mono (Nat.le_succ n)).log (Nat.succ_pos n)
  have : i.natAbs.log2 < 9000 := by omega
  simp [this, z]
/-! ### lowest terms -/
structure Low (t b a c : Int) : Prop where
  pos : 0 < b
  cop : Nat.gcd t.natAbs b.natAbs = 1
  eq : t * c = a * b
theorem Low.uniq {t b t' b' a c : Int} (c0 : c ≠ 0) (h : Low t b a c) (h' : Low t' b' a c) : t = t' ∧ b = b' := by
  have e : t * b' = t' * b := by
    have h1 := h.eq; have h2 := h'.eq
    apply Int.eq_of_mul_eq_mul_right c0
    grind
  have d1 : b.natAbs ∣ b'.natAbs := by
    have : b.natAbs ∣ t.natAbs * b'.natAbs := by rw [← Int.natAbs_mul, e, Int.natAbs_mul]; exact Nat.dvd_mul_left _ _
    exact (Nat.Coprime.symm h.cop).dvd_of_dvd_mul_left this
  have d2 : b'.natAbs ∣ b.natAbs := by
    have : b'.natAbs ∣ t'.natAbs * b.natAbs := by rw [← Int.natAbs_mul, ← e, Int.natAbs_mul]; exact Nat.dvd_mul_left _ _
    exact (Nat.Coprime.symm h'.cop).dvd_of_dvd_mul_left this
  have p := h.pos; have p' := h'.pos
  have eb : b.natAbs = b'.natAbs := Nat.dvd_antisymm d1 d2
  have eb : b = b' := by omega
  subst eb
  exact ⟨Int.eq_of_mul_eq_mul_right (by omega) e, rfl⟩
/-- an init's divisor -/
def sg (t b : Int) : Int := if 0 < b then ((Nat.gcd t.natAbs b.natAbs : Nat) : Int) else -((Nat.gcd t.natAbs b.natAbs : Nat) : Int)
theorem sg_abs (t b : Int) : (sg t b).natAbs = Nat.gcd t.natAbs b.natAbs := by unfold sg; split <;> simp
theorem sg_ne {t b : Int} (h : b ≠ 0) : sg t b ≠ 0 := by
  have := sg_abs t b
  have : 0 < Nat.gcd t.natAbs b.natAbs := Nat.gcd_pos_of_pos_right _ (by omega)
  omega
theorem sg_sm {n : Nat} {t b : Int} (z : b ≠ 0) (h : Sm n b) : Sm n (sg t b) := h.le (by rw [sg_abs]; exact Nat.le_of_dvd (by omega) (Nat.gcd_dvd_right _ _))
theorem sg_low {t b : Int} (z : b ≠ 0) : Low (t.fdiv (sg t b)) (b.fdiv (sg t b)) t b ∧ (t.fdiv (sg t b)).natAbs ≤ t.natAbs ∧ (b.fdiv (sg t b)).natAbs ≤ b.natAbs := by
  have hn := sg_ne (t := t) z
  have ha := sg_abs t b
  have dt : sg t b ∣ t := by rw [← Int.natAbs_dvd_natAbs, ha]; exact Nat.gcd_dvd_left _ _
  have db : sg t b ∣ b := by rw [← Int.natAbs_dvd_natAbs, ha]; exact Nat.gcd_dvd_right _ _
  obtain ⟨u, hu⟩ := dt
  obtain ⟨v, hv⟩ := db
  have eu : t.fdiv (sg t b) = u := by
    have := Int.mul_fdiv_cancel_left (a := sg t b) u hn
    rw [← hu] at this; exact this
  have ev : b.fdiv (sg t b) = v := by
    have := Int.mul_fdiv_cancel_left (a := sg t b) v hn
    rw [← hv] at this; exact this
  rw [eu, ev]
  have gp : 0 < Nat.gcd t.natAbs b.natAbs := Nat.gcd_pos_of_pos_right _ (by omega)
  have au : t.natAbs = Nat.gcd t.natAbs b.natAbs * u.natAbs := by rw [← ha, ← Int.natAbs_mul, ← hu]
  have av : b.natAbs = Nat.gcd t.natAbs b.natAbs * v.natAbs := by rw [← ha, ← Int.natAbs_mul, ← hv]
  refine ⟨⟨?_, ?_, ?_⟩, ?_, ?_⟩
  · by_cases p : 0 < b
    · have : 0 < sg t b := by unfold sg; rw [if_pos p]; omega
      apply Int.lt_of_not_ge
      intro q
      have : sg t b * v ≤ 0 := Int.mul_nonpos_of_nonneg_of_nonpos (Int.le_of_lt this) q
      omega
    · have p1 : b < 0 := by omega
      have : sg t b < 0 := by unfold sg; rw [if_neg p]; omega
      apply Int.lt_of_not_ge
      intro q
      have : 0 ≤ sg t b * v := Int.mul_nonneg_of_nonpos_of_nonpos (Int.le_of_lt this) q
      omega
  · have e : Nat.gcd t.natAbs b.natAbs * Nat.gcd u.natAbs v.natAbs = Nat.gcd t.natAbs b.natAbs * 1 := by
      rw [← Nat.gcd_mul_left, ← au, ← av, Nat.mul_one]
    exact Nat.eq_of_mul_eq_mul_left gp e
  · have h1 := hu; have h2 := hv
    generalize sg t b = s at *
    subst h1 h2
    grind
  · rw [au]; exact Nat.le_mul_of_pos_left _ gp
  · rw [av]; exact Nat.le_mul_of_pos_left _ gp
/-! ### the class -/
theorem init_ok {st : Sto} {r : Nat} {t b : Int} (h : st[r]? = some (.ins 0 [])) (hb : b ≠ 0) (hd : divOk (sg t b) = true) :
    M_Ratio_init [.ob r, .int t, .int b] st = some (.ok .non, st.set r (.ins 0 [(0, .int (t.fdiv (sg t b))), (1, .int (b.fdiv (sg t b)))])) := by
  obtain ⟨hr, h2⟩ := List.getElem?_eq_some_iff.mp h
  have e0 : (b == 0) = false := beq_false_of_ne hb
  unfold sg at *
  by_cases hp : 0 < b
  · rw [if_pos hp] at *
    simp [M_Ratio_init, b_Ratio_init, isint_int, e0, hp, hd, h2, hr, sSeq, sIf, sRet, sRetN, sDo, sSet, sNil, stE, bnd, eVar, eK, eOp2, eOp1, aNil, aCons, eTup, eLst, eLstM, tru, truL, tVal, tNt, tAn, tO, eIfx, eAn, eO, eNt, eCallK, eCallB, viaM, pick, pick1, oEq, oNe, eqS, atm, eqA, eqN, eqLs, vw, sameOb, oI, oAdd, oSub, oMul, oDiv, oMod, oPow, oGt, oLt, oLe, oGe, oNeg, fGcd, fAbs, fInt, fLen, runB, sSetAttr, fldT, fldL, putL, mkI, viaI, fieldL, tbOf, oOwnL, oOwnR, oOwn1, eMethK, sSetIx, ixL]
  · rw [if_neg hp] at *
    simp [M_Ratio_init, b_Ratio_init, isint_int, e0, hp, hd, h2, hr, sSeq, sIf, sRet, sRetN, sDo, sSet, sNil, stE, bnd, eVar, eK, eOp2, eOp1, aNil, aCons, eTup, eLst, eLstM, tru, truL, tVal, tNt, tAn, tO, eIfx, eAn, eO, eNt, eCallK, eCallB, viaM, pick, pick1, oEq, oNe, eqS, atm, eqA, eqN, eqLs, vw, sameOb, oI, oAdd, oSub, oMul, oDiv, oMod, oPow, oGt, oLt, oLe, oGe, oNeg, fGcd, fAbs, fInt, fLen, runB, sSetAttr, fldT, fldL, putL, mkI, viaI, fieldL, tbOf, oOwnL, oOwnR, oOwn1, eMethK, sSetIx, ixL]
abbrev mk (T B : Int) (st : Sto) : Rz LV := viaI 0 M_Ratio_init [.int 1] [.p 0, .p 1, .p 2] [.int T, .int B] [] st
theorem make_ok {st : Sto} {t b : Int} (hb : b ≠ 0) (hd : divOk (sg t b) = true) : mk t b st = some (.ok (rat (t.fdiv (sg t b)) (b.fdiv (sg t b))), st ++ [.gone]) := by
  simp [mk, init_ok (st := st ++ [.ins 0 []]) (r := st.length) (t := t) (b := b) (by simp) hb hd, rat, viaI, mkI, pick, pick1]
/-- what a maker gives -/
def Mkd (r : Rz LV) (st : Sto) (n : Nat) (X Y : Int) : Prop := ∃ t b es, r = some (.ok (rat t b), st ++ es) ∧ Low t b X Y ∧ Sm n t ∧ Sm n b
theorem make {st : Sto} {T B : Int} {n : Nat} (hb : B ≠ 0) (h1 : Sm n T) (h2 : Sm n B) (hn : n < 8000) : Mkd (mk T B st) st n T B := by
  obtain ⟨l, a, b⟩ := sg_low (t := T) hb
  exact ⟨_, _, _, make_ok hb (divOk_of (sg_sm hb h2) (sg_ne hb) hn), l, h1.le a, h2.le b⟩
theorem Mkd.conv {r : Rz LV} {st : Sto} {n : Nat} {X Y X' Y' : Int} (h : Mkd r st n X Y) (y : Y ≠ 0) (e : X * Y' = X' * Y) : Mkd r st n X' Y' := by
  obtain ⟨t, b, es, h1, h2, h3⟩ := h
  refine ⟨t, b, es, h1, ⟨h2.pos, h2.cop, ?_⟩, h3⟩
  have := h2.eq
  apply Int.eq_of_mul_eq_mul_right y
  grind
/-- what counts as a number -/
structure Num (x : LV) (u v C D : Int) : Prop where
  top : ∀ st, M_top_of [x] st = some (.ok (.int u), st)
  bot : ∀ st, M_bottom_of [x] st = some (.ok (.int v), st)
  eq : u * D = C * v
  v0 : 0 < v
  d0 : D ≠ 0
theorem Num.rat {t b A B : Int} (h : Low t b A B) (z : B ≠ 0) : Num (rat t b) t b A B := ⟨top_rat t b, bottom_rat t b, h.eq, h.pos, z⟩
theorem Num.int (m : Int) : Num (.int m) m 1 m 1 := ⟨top_int m, bottom_int m, rfl, by decide, by decide⟩
def toR : Sz → Rz LV
  | some (.rt v, st) => some (.ok v, st)
  | some (.nx _, st) => some (.ok .non, st)
  | some (.ex c fs _, st) => some (.ex c fs, st)
  | _ => .none
theorem runR (n : Nat) (b : Sv) (vs : List LV) (st : Sto) : runB n b vs st = toR (b (vs.map some ++ List.replicate (n - vs.length) .none) st) := rfl
theorem toR_ret (e : Ev) (ls : Ls) (st : Sto) : toR (sRet e ls st) = e ls st := by
  unfold sRet stE
  rcases e ls st with _ | ⟨_ | _, _⟩ <;> rfl
theorem toR_ex (c : Nat) (fs : List (Nat × LV)) (ls : Ls) (st : Sto) : toR (some (.ex c fs ls, st)) = some (.ex c fs, st) := rfl
theorem toR_rt (v : LV) (st : Sto) : toR (some (.rt v, st)) = some (.ok v, st) := rfl
theorem f0 (t b : Int) (st : Sto) : fieldL 0 (rat t b) st = some (.ok (.int t), st) := rfl
theorem f1 (t b : Int) (st : Sto) : fieldL 1 (rat t b) st = some (.ok (.int b), st) := rfl
section
variable {t b A B u v C D : Int} {x : LV} {st : Sto} {n : Nat}
theorem add_eq (N : Num x u v C D) (ht : Sm n t) (hb : Sm n b) (hu : Sm n u) (hv : Sm n v) (hn : n < 2000) : M_Ratio_add [rat t b, x] st = mk (t * v + u * b) (b * v) st := by
  have m1 := mulOk_of ht hv (by omega); have m2 := mulOk_of hu hb (by omega); have m3 := mulOk_of hb hv (by omega)
  simp [M_Ratio_add, b_Ratio_add, f0, f1, N.top, N.bot, m1, m2, m3, runR, toR_ret, stE, bnd, eVar, eCallK, viaM, pick, pick1, eOp2, eOp1, oI, oAdd, oMul, aCons, aNil]
theorem sub_eq (N : Num x u v C D) (ht : Sm n t) (hb : Sm n b) (hu : Sm n u) (hv : Sm n v) (hn : n < 2000) : M_Ratio_sub [rat t b, x] st = mk (t * v - u * b) (b * v) st := by
  have m1 := mulOk_of ht hv (by omega); have m2 := mulOk_of hu hb (by omega); have m3 := mulOk_of hb hv (by omega)
  simp [M_Ratio_sub, b_Ratio_sub, f0, f1, N.top, N.bot, m1, m2, m3, runR, toR_ret, stE, bnd, eVar, eCallK, viaM, pick, pick1, eOp2, eOp1, oI, oSub, oMul, aCons, aNil]
theorem mul_eq (N : Num x u v C D) (ht : Sm n t) (hb : Sm n b) (hu : Sm n u) (hv : Sm n v) (hn : n < 2000) : M_Ratio_mul [rat t b, x] st = mk (t * u) (b * v) st := by
  have m1 := mulOk_of ht hu (by omega); have m3 := mulOk_of hb hv (by omega)
  simp [M_Ratio_mul, b_Ratio_mul, f0, f1, N.top, N.bot, m1, m3, runR, toR_ret, stE, bnd, eVar, eCallK, viaM, pick, pick1, eOp2, eOp1, oI, oMul, aCons, aNil]
theorem neg_eq : M_Ratio_neg [rat t b] st = mk (-t) b st := by
  simp [M_Ratio_neg, b_Ratio_neg, f0, f1, runR, toR_ret, stE, bnd, eVar, eCallK, eOp1, oNeg, aCons, aNil]
theorem over_eq (N : Num x u v C D) (ht : Sm n t) (hb : Sm n b) (hu : Sm n u) (hv : Sm n v) (hn : n < 2000) : M_Ratio_over [rat t b, x] st = if u = 0 then some (.ex 3 [(2, x)], st) else mk (t * v) (b * u) st := by
  have m1 := mulOk_of ht hv (by omega); have m3 := mulOk_of hb hu (by omega)
  by_cases z : u = 0
  · subst z
    simp [M_Ratio_over, b_Ratio_over, f0, f1, N.top, N.bot, m1, m3, sRaise1, runR, toR_ex, sSeq, sIf, sNil, stE, bnd, eVar, eK, tVal, tru, truL, eCallK, viaM, pick, pick1, eOp2, oEq, eqS, atm, eqA, aCons, aNil]
  · have z' : (u == 0) = false := beq_false_of_ne z
    rw [if_neg z]
    simp [M_Ratio_over, b_Ratio_over, f0, f1, N.top, N.bot, m1, m3, z', runR, toR_ret, sSeq, sIf, sNil, stE, bnd, eVar, eK, tVal, tru, truL, eCallK, viaM, pick, pick1, eOp2, eOp1, oI, oMul, aCons, aNil, oEq, eqS, atm, eqA]
theorem below_eq (N : Num x u v C D) (ht : Sm n t) (hb : Sm n b) (hu : Sm n u) (hv : Sm n v) (hn : n < 2000) : M_Ratio_is_below [rat t b, x] st = some (.ok (.bl (decide (t * v < u * b))), st) := by
  have m1 := mulOk_of ht hv (by omega); have m2 := mulOk_of hu hb (by omega)
  simp [M_Ratio_is_below, b_Ratio_is_below, f0, f1, N.top, N.bot, m1, m2, runR, toR_ret, stE, bnd, eVar, eCallK, viaM, pick, pick1, eOp2, eOp1, oI, oLt, oMul, aCons, aNil]
theorem most_eq (N : Num x u v C D) (ht : Sm n t) (hb : Sm n b) (hu : Sm n u) (hv : Sm n v) (hn : n < 2000) : M_Ratio_is_at_most [rat t b, x] st = some (.ok (.bl (decide (t * v ≤ u * b))), st) := by
  have m1 := mulOk_of ht hv (by omega); have m2 := mulOk_of hu hb (by omega)
  simp [M_Ratio_is_at_most, b_Ratio_is_at_most, f0, f1, N.top, N.bot, m1, m2, runR, toR_ret, stE, bnd, eVar, eCallK, viaM, pick, pick1, eOp2, eOp1, oI, oLe, oMul, aCons, aNil]
theorem add_ok (h : Low t b A B) (z : B ≠ 0) (N : Num x u v C D) (ht : Sm n t) (hb : Sm n b) (hu : Sm n u) (hv : Sm n v) (hn : n < 2000) : Mkd (M_Ratio_add [rat t b, x] st) st (n + n + 1) (A * D + C * B) (B * D) := by
  rw [add_eq N ht hb hu hv hn]
  have p := h.pos; have q := N.v0
  have bv : b * v ≠ 0 := Int.ne_of_gt (Int.mul_pos p q)
  refine (make bv ?_ ((hb.mul hv).mono (by omega)) (by omega)).conv bv ?_
  · exact ((ht.mul hv).add (hu.mul hb)).mono (by omega)
  · have h1 := h.eq; have h2 := N.eq
    grind
theorem sub_ok (h : Low t b A B) (z : B ≠ 0) (N : Num x u v C D) (ht : Sm n t) (hb : Sm n b) (hu : Sm n u) (hv : Sm n v) (hn : n < 2000) : Mkd (M_Ratio_sub [rat t b, x] st) st (n + n + 1) (A * D - C * B) (B * D) := by
  rw [sub_eq N ht hb hu hv hn]
  have p := h.pos; have q := N.v0
  have bv : b * v ≠ 0 := Int.ne_of_gt (Int.mul_pos p q)
  refine (make bv ?_ ((hb.mul hv).mono (by omega)) (by omega)).conv bv ?_
  · exact ((ht.mul hv).sub (hu.mul hb)).mono (by omega)
  · have h1 := h.eq; have h2 := N.eq
    grind
theorem mul_ok (h : Low t b A B) (z : B ≠ 0) (N : Num x u v C D) (ht : Sm n t) (hb : Sm n b) (hu : Sm n u) (hv : Sm n v) (hn : n < 2000) : Mkd (M_Ratio_mul [rat t b, x] st) st (n + n + 1) (A * C) (B * D) := by
  rw [mul_eq N ht hb hu hv hn]
  have p := h.pos; have q := N.v0
  have bv : b * v ≠ 0 := Int.ne_of_gt (Int.mul_pos p q)
  refine (make bv ?_ ((hb.mul hv).mono (by omega)) (by omega)).conv bv ?_
  · exact (ht.mul hu).mono (by omega)
  · have h1 := h.eq; have h2 := N.eq
    grind
theorem neg_ok (h : Low t b A B) (z : B ≠ 0) (ht : Sm n t) (hb : Sm n b) (hn : n < 8000) : Mkd (M_Ratio_neg [rat t b] st) st n (-A) B := by
  rw [neg_eq]
  have p := h.pos
  refine (make (by omega) ht.neg hb hn).conv (by omega) ?_
  have h1 := h.eq
  grind
theorem over_ok (h : Low t b A B) (z : B ≠ 0) (N : Num x u v C D) (c : C ≠ 0) (ht : Sm n t) (hb : Sm n b) (hu : Sm n u) (hv : Sm n v) (hn : n < 2000) : Mkd (M_Ratio_over [rat t b, x] st) st (n + n + 1) (A * D) (B * C) := by
  have p := h.pos; have q := N.v0; have e := N.eq; have d := N.d0
  have u0 : u ≠ 0 := by
    intro e0
    rw [e0, Int.zero_mul] at e
    exact Int.mul_ne_zero c (by omega) e.symm
  rw [over_eq N ht hb hu hv hn, if_neg u0]
  have bv : b * u ≠ 0 := Int.mul_ne_zero (by omega) u0
  refine (make bv ?_ ((hb.mul hu).mono (by omega)) (by omega)).conv bv ?_
  · exact (ht.mul hv).mono (by omega)
  · have h1 := h.eq; have h2 := N.eq
    grind
end
/-! ### the checker's own words -/
def gT' : Tv := tVal (eOp2 oNe (eVar 1) (eK (.int 0)))
def gB' : Sv := sPar 0 1 (aCons (eVar 1) (aCons (eOp2 oMod (eCallB fInt (aCons (eVar 0) aNil)) (eVar 1)) aNil))
theorem gcd_loop : ∀ (n : Nat) (a b : Nat) (m : Nat) (st : Sto), b < n → n ≤ m → whileN gT' gB' m [some (.int a), some (.int b)] st = some (.nx [some (.int (Nat.gcd a b : Nat)), some (.int 0)], st)
  | 0, a, b, m, st, h, _ => absurd h (Nat.not_lt_zero _)
  | n + 1, a, b, m, st, h, hm => by
    obtain ⟨m, rfl⟩ : ∃ k, m = k + 1 := ⟨m - 1, by omega⟩
    unfold whileN
    by_cases z : b = 0
    · subst z
      have ht : gT' [some (.int a), some (.int (0 : Nat))] st = some (.ok false, st) := rfl
      rw [ht, Nat.gcd_zero_right]; rfl
    · have z' : ((b : Int) == 0) = false := beq_false_of_ne (by omega)
      have z2 : (b : Int) ≠ 0 := by omega
      have e : (a : Int).fmod b = ((a % b : Nat) : Int) := by rw [Int.fmod_eq_emod_of_nonneg _ (by omega)]; rfl
      have ih := gcd_loop n b (a % b) m st (by have := Nat.mod_lt a (show b > 0 by omega); omega) (by omega)
      have g : Nat.gcd b (a % b) = Nat.gcd a b := by rw [Nat.gcd_comm a b, Nat.gcd_rec b a, Nat.gcd_comm]
      rw [g] at ih
      have ht : gT' [some (.int a), some (.int b)] st = some (.ok true, st) := by
        simp [gT', tVal, tru, truL, eOp2, oNe, eVar, eK, eqS, atm, eqA, bnd, z']
      have hb : gB' [some (.int a), some (.int b)] st = some (.nx [some (.int b), some (.int (a % b : Nat))], st) := by
        rw [← e]
        unfold gB' sPar aCons aNil eOp2 oMod oI eCallB fInt eVar bnd
        simp only [List.getElem?_cons_succ, List.getElem?_cons_zero, if_pos z2]; rfl
      rw [ht, ← ih]
      unfold stE
      simp only [hb]
theorem gcd_eq (a b : Int) (st : Sto) : M_law_gcd [.int a, .int b] st = some (.ok (.int (Nat.gcd a.natAbs b.natAbs : Nat)), st) := by
  have l := gcd_loop (b.natAbs + 1) a.natAbs b.natAbs (muGcd [some (.int a.natAbs), some (.int b.natAbs)] st) st (by omega) (by simp [muGcd])
  have ea : (if a < 0 then -a else a) = (a.natAbs : Int) := by split <;> omega
  have eb : (if b < 0 then -b else b) = (b.natAbs : Int) := by split <;> omega
  have hb : b_law_gcd = sSeq (sPar 0 1 (aCons (eCallB fAbs (aCons (eCallB fInt (aCons (eVar 0) aNil)) aNil)) (aCons (eCallB fAbs (aCons (eCallB fInt (aCons (eVar 1) aNil)) aNil)) aNil))) (sSeq (sWhile muGcd gT' gB') (sRet (eVar 0))) := rfl
  simp [M_law_gcd, hb, runR, sSeq, sPar, stE, bnd, aCons, aNil, eCallB, fAbs, fInt, eVar, ea, eb, sWhile, l, toR_ret]
theorem lowest_ok {X Y : Int} {st : Sto} {n : Nat} (y : Y ≠ 0) (hx : Sm n X) (hy : Sm n Y) (hn : n < 8000) : ∃ t b, M_law_lowest [.int X, .int Y] st = some (.ok (.tup [.int t, .int b]), st) ∧ Low t b X Y := by
  have hg : (Nat.gcd X.natAbs Y.natAbs : Int) ≠ 0 := by
    have : 0 < Nat.gcd X.natAbs Y.natAbs := Nat.gcd_pos_of_pos_right _ (by omega)
    omega
  have sgm : Sm n (Nat.gcd X.natAbs Y.natAbs : Int) := hy.le (by rw [Int.natAbs_natCast]; exact Nat.le_of_dvd (by omega) (Nat.gcd_dvd_right _ _))
  have hd := divOk_of sgm hg hn
  have s1 : Sm 1 (1 : Int) := by unfold Sm; decide
  have s2 : Sm 1 (-1 : Int) := by unfold Sm; decide
  have m1 := mulOk_of s1 hx (by omega); have m2 := mulOk_of s1 hy (by omega)
  have m3 := mulOk_of s2 hx (by omega); have m4 := mulOk_of s2 hy (by omega)
  obtain ⟨l, _, _⟩ := sg_low (t := X) y
  refine ⟨_, _, ?_, l⟩
  unfold sg
  by_cases p : 0 < Y
  · simp [M_law_lowest, b_law_lowest, runR, sSeq, sSet, stE, bnd, aCons, aNil, eVar, eK, eCallK, viaM, pick, pick1, gcd_eq, eIfx, tVal, tru, truL, eOp2, oGt, oI, oMul, oDiv, eTup, toR_ret, hd, m1, m2, p]
  · have e1 : ∀ z g : Int, (-z).fdiv g = z.fdiv (-g) := fun z g => by rw [← Int.neg_fdiv_neg z (-g), Int.neg_neg]
    simp [M_law_lowest, b_law_lowest, runR, sSeq, sSet, stE, bnd, aCons, aNil, eVar, eK, eCallK, viaM, pick, pick1, gcd_eq, eIfx, tVal, tru, truL, eOp1, eOp2, oNeg, oGt, oI, oMul, oDiv, eTup, toR_ret, hd, m3, m4, p, e1]
theorem is_ok {X Y t b : Int} {st : Sto} {n : Nat} (l : Low t b X Y) (y : Y ≠ 0) (hx : Sm n X) (hy : Sm n Y) (hn : n < 8000) : M_law_is [rat t b, .int X, .int Y] st = some (.ok (.bl true), st) := by
  obtain ⟨t', b', e, l'⟩ := lowest_ok (st := st) y hx hy hn
  obtain ⟨rfl, rfl⟩ := l.uniq y l'
  have i0 : ∀ st, isiL isiT [.c 0] (rat t b) st = some (.ok (.bl true), st) := fun st => rfl
  have i1 : ∀ i st, isiL isiT [.b "int"] (.int i) st = some (.ok (.bl true), st) := fun i st => rfl
  simp [M_law_is, b_law_is, runR, sSeq, sIf, sNil, stE, bnd, aCons, aNil, eVar, eK, eCallK, viaM, pick, pick1, tVal, tru, truL, tO, tNt, eIsi, i0, i1, eOp1, f0, f1, eOp2, oEq, eqS, atm, vw, eqLs, eqN, sameOb, eqA, eTup, toR_ret, e]
/-! ### draws -/
def dE1 : Ev := eOp2 oMod (eCallB fInt (aCons (eOp2 oPow (eOp2 oAdd (eOp2 oAdd (eOp2 oMod (eCallB fInt (aCons (eVar 4) aNil)) (eK (.int 2147483587))) (eOp2 oMul (eK (.int 69011)) (eVar 3))) (eK (.int 3119))) (eK (.int 5))) aNil)) (eK (.int 2147483563))
def dE2 : Ev := eOp2 oMod (eCallB fInt (aCons (eOp2 oPow (eOp2 oAdd (eOp2 oAdd (eOp2 oMul (eVar 5) (eOp2 oAdd (eOp2 oMul (eK (.int 2)) (eVar 3)) (eK (.int 467)))) (eOp2 oMul (eOp2 oMul (eK (.int 43793)) (eVar 3)) (eVar 3))) (eK (.int 69011))) (eK (.int 3))) aNil)) (eK (.int 2147483549))
theorem powOk_of {i : Int} {j : Int} (h : i.natAbs < 2 ^ 64) (h0 : 0 ≤ j) (h1 : j ≤ 1000) : powOk i j = true := by simp [powOk, h, h0, h1]
theorem mulOk_l {i j : Int} (h : i.natAbs < 2 ^ 64) : mulOk i j = true := by simp [mulOk, h]
theorem fmod_rng (a : Int) {b : Int} (h : 0 < b) : 0 ≤ a.fmod b ∧ a.fmod b < b := ⟨Int.fmod_nonneg_of_pos a h, Int.fmod_lt_of_pos a h⟩
theorem dE1_ok {ls : Ls} {st : Sto} {turn cell : Int} (h3 : ls[3]? = some (some (.int turn))) (h4 : ls[4]? = some (some (.int cell))) (t0 : 0 ≤ turn) (t1 : turn < 10000) : ∃ m, dE1 ls st = some (.ok (.int m), st) ∧ 0 ≤ m ∧ m < 2147483563 := by
  obtain ⟨q0, q1⟩ := fmod_rng cell (b := 2147483587) (by decide)
  have m1 := mulOk_l (i := 69011) (j := turn) (by decide)
  have p1 := powOk_of (i := cell.fmod 2147483587 + 69011 * turn + 3119) (j := 5) (by omega) (by decide) (by decide)
  refine ⟨_, ?_, fmod_rng ((cell.fmod 2147483587 + 69011 * turn + 3119) ^ 5) (by decide)⟩
  simp only [dE1, eOp2, oMod, oPow, oAdd, oMul, oI, eCallB, aCons, aNil, fInt, eVar, eK, bnd, h3, h4, m1, if_pos (show (2147483587 : Int) ≠ 0 by decide), if_pos (show (2147483563 : Int) ≠ 0 by decide), p1, if_true, Int.reduceToNat]
theorem dE2_ok {ls : Ls} {st : Sto} {turn m : Int} (h3 : ls[3]? = some (some (.int turn))) (h5 : ls[5]? = some (some (.int m))) (t0 : 0 ≤ turn) (t1 : turn < 10000) (m0 : 0 ≤ m) (m1 : m < 2147483563) : ∃ m, dE2 ls st = some (.ok (.int m), st) ∧ 0 ≤ m ∧ m < 2147483549 := by
  have a1 := mulOk_l (i := 2) (j := turn) (by decide)
  have a2 := mulOk_l (i := 43793) (j := turn) (by decide)
  have a3 := mulOk_l (i := 43793 * turn) (j := turn) (by omega)
  have a4 := mulOk_l (i := m) (j := 2 * turn + 467) (by omega)
  have b1 : m * (2 * turn + 467) ≤ 2147483563 * 20467 := Int.mul_le_mul (by omega) (by omega) (by omega) (by omega)
  have b2 : 43793 * turn * turn ≤ 437930000 * 10000 := Int.mul_le_mul (by omega) (by omega) (by omega) (by omega)
  have b3 : 0 ≤ m * (2 * turn + 467) := Int.mul_nonneg m0 (by omega)
  have b4 : 0 ≤ 43793 * turn * turn := Int.mul_nonneg (by omega) (by omega)
  have p1 := powOk_of (i := m * (2 * turn + 467) + 43793 * turn * turn + 69011) (j := 3) (by omega) (by decide) (by decide)
  refine ⟨_, ?_, fmod_rng ((m * (2 * turn + 467) + 43793 * turn * turn + 69011) ^ 3) (by decide)⟩
  simp only [dE2, eOp2, oMod, oPow, oAdd, oMul, oI, eCallB, aCons, aNil, fInt, eVar, eK, bnd, h3, h5, a1, a2, a3, a4, if_pos (show (2147483549 : Int) ≠ 0 by decide), p1, if_true, Int.reduceToNat]
def dTail : Sv := sSeq (sSet 5 dE1) (sSeq (sSet 5 dE2) (sRet (eOp2 oMod (eCallB fInt (aCons (eOp2 oDiv (eVar 5) (eK (.int 64))) aNil)) (eVar 1))))
theorem dTail_ok {a : LV} {x2 : Option LV} {st : Sto} {many turn cell : Int} (hm : 0 < many) (t0 : 0 ≤ turn) (t1 : turn < 10000) : ∃ r, toR (dTail [some a, some (.int many), x2, some (.int turn), some (.int cell), none] st) = some (.ok (.int r), st) ∧ 0 ≤ r ∧ r < many := by
  obtain ⟨m, e, m0, m1⟩ := dE1_ok (ls := [some a, some (.int many), x2, some (.int turn), some (.int cell), none]) (st := st) rfl rfl t0 t1
  obtain ⟨m', e', m0', m1'⟩ := dE2_ok (ls := [some a, some (.int many), x2, some (.int turn), some (.int cell), some (.int m)]) (st := st) rfl rfl t0 t1 m0 m1
  have z : many ≠ 0 := by omega
  refine ⟨_, ?_, fmod_rng (m'.fdiv 64) hm⟩
  have d : divOk 64 = true := by decide
  simp [dTail, sSeq, sSet, stE, e, e', toR_ret, eOp2, oMod, oI, eCallB, aCons, aNil, fInt, oDiv, eVar, eK, bnd, d, z]
theorem draw1 {st : Sto} {w : Nat} {cs : List LV} {turn left many : Int} (hw : st[w]? = some (.lst [.lst cs, .int turn, .int left])) (hl : 0 < left) (hm : many ≠ 0) (hd : divOk many = true) :
    M_law_draw [.ob w, .int many] st = some (.ok (.int (left.fmod many)), st.set w (.lst [.lst cs, .int turn, .int (left.fdiv many)])) := by
  obtain ⟨hlt, h2⟩ := List.getElem?_eq_some_iff.mp hw
  simp [M_law_draw, b_law_draw, runR, sRet, toR_rt, sSeq, sIf, sSet, sSetIx, stE, bnd, aCons, aNil, eVar, eK, eCallB, fInt, tVal, tru, truL, eOp2, oGt, oI, oDiv, oMod, ixL, vw, L2.atI, L2.ixN, hlt, h2, hl, hm, hd]
def W0 : Ev := eOp2 ixL (eVar 0) (eK (.int 0))
def L0 : Ev := eCallB fLen (aCons W0 aNil)
def N0 : Tv := tVal (eOp2 oNe W0 (eLst aNil))
def I0 : Ev := eOp2 oMod (eCallB fInt (aCons (eVar 3) aNil)) L0
def dA : Sv := sIf N0 (sSet 4 (eOp2 ixL W0 I0)) sNil
section
variable {st : Sto} {w : Nat} {cs : List LV} {turn left : Int} {ls : Ls}
theorem W0_ok (hw : st[w]? = some (.lst [.lst cs, .int turn, .int left])) (h0 : ls[0]? = some (some (.ob w))) : W0 ls st = some (.ok (.lst cs), st) := by
  have x0 : L2.atI [LV.lst cs, LV.int turn, LV.int left] 0 = some (.lst cs) := rfl
  simp only [W0, eOp2, eVar, eK, bnd, h0, ixL, vw, hw, x0]
theorem L0_ok (hw : st[w]? = some (.lst [.lst cs, .int turn, .int left])) (h0 : ls[0]? = some (some (.ob w))) : L0 ls st = some (.ok (.int (cs.length : Nat)), st) := by
  simp only [L0, eCallB, aCons, aNil, bnd, W0_ok hw h0, fLen]
theorem N0_ok (hw : st[w]? = some (.lst [.lst cs, .int turn, .int left])) (h0 : ls[0]? = some (some (.ob w))) : N0 ls st = some (.ok (!cs.isEmpty), st) := by
  rcases cs with _ | ⟨c, cs⟩ <;>
  simp [N0, tVal, tru, truL, eOp2, oNe, eqS, atm, eqLs, eLst, aNil, bnd, W0_ok hw h0, vw]
theorem I0_ok (hw : st[w]? = some (.lst [.lst cs, .int turn, .int left])) (h0 : ls[0]? = some (some (.ob w))) {t : Int} (h3 : ls[3]? = some (some (.int t))) (z : (cs.length : Int) ≠ 0) : I0 ls st = some (.ok (.int (t.fmod cs.length)), st) := by
  simp only [I0, eOp2, oMod, oI, eCallB, fInt, eVar, aCons, aNil, bnd, h3, L0_ok hw h0, if_pos z]
end
theorem dA_ok {st : Sto} {w : Nat} {ns : List Int} {turn t left many c : Int} {x2 x5 : Option LV} (hw : st[w]? = some (.lst [.lst (ns.map .int), .int turn, .int left])) :
    ∃ c', dA [some (.ob w), some (.int many), x2, some (.int t), some (.int c), x5] st = some (.nx [some (.ob w), some (.int many), x2, some (.int t), some (.int c'), x5], st) := by
  have N := N0_ok (ls := [some (.ob w), some (.int many), x2, some (.int t), some (.int c), x5]) hw rfl
  by_cases e : ns = []
  · subst e
    refine ⟨c, ?_⟩
    simp only [dA, sIf, N, stE]; rfl
  · have pz : (0 : Int) < ((ns.map LV.int).length : Nat) := by
      rw [List.length_map]
      have := List.length_pos_iff.mpr e
      omega
    have z : (((ns.map LV.int).length : Nat) : Int) ≠ 0 := by omega
    obtain ⟨r0, r1⟩ := fmod_rng t pz
    have I := I0_ok (ls := [some (.ob w), some (.int many), x2, some (.int t), some (.int c), x5]) hw rfl rfl z
    have W := W0_ok (ls := [some (.ob w), some (.int many), x2, some (.int t), some (.int c), x5]) hw rfl
    obtain ⟨j, hj⟩ : ∃ j : Nat, t.fmod ((ns.map LV.int).length : Nat) = j := ⟨(t.fmod ((ns.map LV.int).length : Nat)).toNat, by omega⟩
    rw [hj] at r1 I
    have hjl : j < ns.length := by rw [List.length_map] at r1; omega
    have at1 : L2.atI (ns.map LV.int) (j : Int) = some (.int ns[j]) := by
      have q : (0 : Int) ≤ (j : Int) := by omega
      unfold L2.atI L2.ixN
      rw [if_pos q, if_pos r1]
      simp only [Option.bind_some, Int.toNat_natCast, List.getElem?_map, List.getElem?_eq_getElem hjl, Option.map_some]
    refine ⟨ns[j], ?_⟩
    have e2 : (!(ns.map LV.int).isEmpty) = true := by simp [e]
    rw [e2] at N
    simp only [dA, sIf, N, stE, sSet, eOp2, W, I, bnd, ixL, vw, at1]
    rfl
def aT : Tv := tAn (tVal (eOp2 oLt (eVar 3) L0)) (tVal (eOp2 oGe (eCallB fAbs (aCons (eVar 4) aNil)) (eOp2 oPow (eK (.int 10)) (eK (.int 18)))))
def bE : Ev := eOp2 oAdd (eOp2 oMul (eK (.int 2)) (eOp2 oSub (eCallB fAbs (aCons (eCallB fInt (aCons (eVar 4) aNil)) aNil)) (eOp2 oPow (eK (.int 10)) (eK (.int 18))))) (eCallB fInt (aCons (eOp2 oLt (eVar 4) (eK (.int 0))) aNil))
def dCut : Sv := sSeq (sSetIx (eOp2 oDiv (eVar 2) (eVar 1)) (eVar 0) (eK (.int 2))) (sRet (eOp2 oMod (eCallB fInt (aCons (eVar 2) aNil)) (eVar 1)))
def dBig : Sv := sIf aT (sSeq (sSet 2 bE) dCut) sNil
section
variable {st : Sto} {w : Nat} {cs : List LV} {turn t left many c x : Int} {x3 x4 x2 x5 : Option LV}
theorem aT_ok (hw : st[w]? = some (.lst [.lst cs, .int turn, .int left])) : aT [some (.ob w), some (.int many), x2, some (.int t), some (.int c), x5] st = some (.ok (decide (t < (cs.length : Nat)) && decide (10 ^ 18 ≤ (if c < 0 then -c else c))), st) := by
  have L := L0_ok (ls := [some (.ob w), some (.int many), x2, some (.int t), some (.int c), x5]) hw rfl
  have p : powOk 10 18 = true := by decide
  by_cases h : t < (cs.length : Nat)
  · simp [aT, tAn, tVal, tru, truL, eOp2, oLt, oGe, oI, eVar, bnd, L, h, eCallB, aCons, aNil, fAbs, oPow, eK, p]
  · simp [aT, tAn, tVal, tru, truL, eOp2, oLt, oGe, oI, eVar, bnd, L, h, eCallB, aCons, aNil, fAbs, oPow, eK, p]
theorem bE_ok : bE [some (.ob w), some (.int many), x2, some (.int t), some (.int c), x5] st = some (.ok (.int (2 * ((if c < 0 then -c else c) - 10 ^ 18) + (if c < 0 then 1 else 0))), st) := by
  have p : powOk 10 18 = true := by decide
  have m := mulOk_l (i := 2) (j := (if c < 0 then -c else c) - 1000000000000000000) (by decide)
  simp [bE, eOp2, oLt, oAdd, oMul, oSub, oI, eVar, bnd, eCallB, aCons, aNil, fAbs, fInt, oPow, eK, p, m]
theorem dCut_ok (hw : st[w]? = some (.lst [.lst cs, .int turn, .int left])) (hm : many ≠ 0) (hd : divOk many = true) : dCut [some (.ob w), some (.int many), some (.int x), x3, x4, x5] st = some (.rt (.int (x.fmod many)), st.set w (.lst [.lst cs, .int turn, .int (x.fdiv many)])) := by
  obtain ⟨hlt, h2⟩ := List.getElem?_eq_some_iff.mp hw
  simp [dCut, sRet, sSeq, sSetIx, stE, bnd, aCons, aNil, eVar, eK, eCallB, fInt, eOp2, oI, oDiv, oMod, L2.ixN, hlt, h2, hm, hd]
theorem dBig_ok (hw : st[w]? = some (.lst [.lst cs, .int turn, .int left])) (hm : many ≠ 0) (hd : divOk many = true) :
    dBig [some (.ob w), some (.int many), x2, some (.int t), some (.int c), x5] st = some (.nx [some (.ob w), some (.int many), x2, some (.int t), some (.int c), x5], st) ∨ ∃ x : Int, 0 ≤ x ∧ dBig [some (.ob w), some (.int many), x2, some (.int t), some (.int c), x5] st = some (.rt (.int (x.fmod many)), st.set w (.lst [.lst cs, .int turn, .int (x.fdiv many)])) := by
  by_cases h : (decide (t < (cs.length : Nat)) && decide (10 ^ 18 ≤ (if c < 0 then -c else c))) = true
  · refine .inr ⟨2 * ((if c < 0 then -c else c) - 10 ^ 18) + (if c < 0 then 1 else 0), ?_, ?_⟩
    · rw [Bool.and_eq_true, decide_eq_true_eq, decide_eq_true_eq] at h
      have := h.2
      by_cases hc : c < 0
      · rw [if_pos hc] at *; omega
      · rw [if_neg hc] at *; omega
    · have e := aT_ok (many := many) (t := t) (c := c) (x2 := x2) (x5 := x5) hw
      rw [h] at e
      simp only [dBig, sIf, stE, e, sSeq, sSet, bE_ok, List.set_cons_succ, List.set_cons_zero]
      rw [dCut_ok hw hm hd]
  · have e := aT_ok (many := many) (t := t) (c := c) (x2 := x2) (x5 := x5) hw
    rw [Bool.not_eq_true] at h
    rw [h] at e
    exact .inl (by simp only [dBig, sIf, stE, e, sNil])
end
theorem draw_ok {st : Sto} {w : Nat} {ns : List Int} {turn left many : Int} (hw : st[w]? = some (.lst [.lst (ns.map .int), .int turn, .int left])) (t0 : 0 ≤ turn) (t1 : turn < 10000) (l0 : 0 ≤ left) (hm : 0 < many) (hd : divOk many = true) :
    ∃ r turn' left', M_law_draw [.ob w, .int many] st = some (.ok (.int r), st.set w (.lst [.lst (ns.map .int), .int turn', .int left'])) ∧ 0 ≤ r ∧ r < many ∧ 0 ≤ turn' ∧ turn' ≤ turn + 1 ∧ 0 ≤ left' := by
  have hm0 : many ≠ 0 := by omega
  by_cases hl : 0 < left
  · refine ⟨_, _, _, draw1 hw hl hm0 hd, (fmod_rng left hm).1, (fmod_rng left hm).2, t0, by omega, Int.fdiv_nonneg l0 (by omega)⟩
  · obtain ⟨hlt, h2⟩ := List.getElem?_eq_some_iff.mp hw
    have hw' : (st.set w (.lst [.lst (ns.map .int), .int (turn + 1), .int left]))[w]? = some (.lst [.lst (ns.map .int), .int (turn + 1), .int left]) := by
      rw [List.getElem?_set_self hlt]
    have step : M_law_draw [.ob w, .int many] st = toR (sSeq dA (sSeq dBig dTail) [some (.ob w), some (.int many), none, some (.int turn), some (.int (43793 * turn + 3119)), none] (st.set w (.lst [.lst (ns.map .int), .int (turn + 1), .int left]))) := by
      have m := mulOk_l (i := 43793) (j := turn) (by decide)
      have hb : b_law_draw = sSeq (sIf (tVal (eOp2 oGt (eOp2 ixL (eVar 0) (eK (.int 2))) (eK (.int 0)))) (sSeq (sSet 2 (eCallB fInt (aCons (eOp2 ixL (eVar 0) (eK (.int 2))) aNil))) dCut) sNil) (sSeq (sSet 3 (eOp2 ixL (eVar 0) (eK (.int 1)))) (sSeq (sSetIx (eOp2 oAdd (eVar 3) (eK (.int 1))) (eVar 0) (eK (.int 1))) (sSeq (sSet 4 (eOp2 oAdd (eOp2 oMul (eK (.int 43793)) (eVar 3)) (eK (.int 3119)))) (sSeq dA (sSeq dBig dTail))))) := rfl
      generalize sSeq dA (sSeq dBig dTail) = R at *
      simp [M_law_draw, hb, runR, sSeq, sIf, sSet, sSetIx, sNil, stE, bnd, aCons, aNil, eVar, eK, eCallB, fInt, tVal, tru, truL, eOp2, oGt, oAdd, oMul, oI, ixL, vw, L2.atI, L2.ixN, hlt, h2, hl, m]
    obtain ⟨c, ec⟩ := dA_ok (t := turn) (many := many) (c := 43793 * turn + 3119) (x2 := none) (x5 := none) hw'
    rw [step]
    rcases dBig_ok (t := turn) (c := c) (x2 := none) (x5 := none) hw' hm0 hd with e | ⟨x, x0, e⟩
    · obtain ⟨r, er, r0, r1⟩ := dTail_ok (a := .ob w) (x2 := none) (st := st.set w (.lst [.lst (ns.map .int), .int (turn + 1), .int left])) (cell := c) hm t0 t1
      refine ⟨r, turn + 1, left, ?_, r0, r1, by omega, by omega, l0⟩
      simp only [sSeq, ec, e]
      exact er
    · refine ⟨x.fmod many, turn + 1, x.fdiv many, ?_, (fmod_rng x hm).1, (fmod_rng x hm).2, by omega, by omega, Int.fdiv_nonneg x0 (by omega)⟩
      simp only [sSeq, ec, e, toR_rt, List.set_set]
/-! ### the well -/
def Well (st : Sto) (w : Nat) (ns : List Int) (T : Nat) : Prop := ∃ turn left : Int, st[w]? = some (.lst [.lst (ns.map .int), .int turn, .int left]) ∧ 0 ≤ turn ∧ turn ≤ T ∧ 0 ≤ left
/-- st grows to st'; only w may have changed -/
def Fr (w : Nat) (st st' : Sto) : Prop := st.length ≤ st'.length ∧ ∀ i, i ≠ w → i < st.length → st'[i]? = st[i]?
theorem Fr.refl (w : Nat) (st : Sto) : Fr w st st := ⟨Nat.le_refl _, fun _ _ _ => rfl⟩
theorem Fr.trans {w : Nat} {a b c : Sto} (h : Fr w a b) (g : Fr w b c) : Fr w a c := ⟨Nat.le_trans h.1 g.1, fun i n l => by rw [g.2 i n (Nat.lt_of_lt_of_le l h.1), h.2 i n l]⟩
theorem Fr.app (w : Nat) (st es : Sto) : Fr w st (st ++ es) := ⟨by simp, fun i _ l => List.getElem?_append_left l⟩
theorem Fr.set (w : Nat) (st : Sto) (o : MO) : Fr w st (st.set w o) := ⟨by simp, fun i n _ => List.getElem?_set_ne (fun e => n e.symm)⟩
theorem Well.app {st : Sto} {w : Nat} {ns : List Int} {T : Nat} (W : Well st w ns T) (es : Sto) : Well (st ++ es) w ns T := by
  obtain ⟨a, b, h, r⟩ := W
  exact ⟨a, b, by rw [List.getElem?_append_left (List.getElem?_eq_some_iff.mp h).1]; exact h, r⟩
theorem Well.mono {st : Sto} {w : Nat} {ns : List Int} {T T' : Nat} (W : Well st w ns T) (l : T ≤ T') : Well st w ns T' := by
  obtain ⟨a, b, h, r1, r2, r3⟩ := W
  exact ⟨a, b, h, r1, by omega, r3⟩
theorem Well.lt {st : Sto} {w : Nat} {ns : List Int} {T : Nat} (W : Well st w ns T) : w < st.length := by
  obtain ⟨a, b, h, r⟩ := W
  exact (List.getElem?_eq_some_iff.mp h).1
theorem dr {st : Sto} {w : Nat} {ns : List Int} {T : Nat} {many : Int} (W : Well st w ns T) (hT : T < 9000) (hm : 0 < many) (hd : divOk many = true) :
    ∃ r st', M_law_draw [.ob w, .int many] st = some (.ok (.int r), st') ∧ 0 ≤ r ∧ r < many ∧ Well st' w ns (T + 1) ∧ Fr w st st' := by
  have hw := W.lt
  obtain ⟨a, b, h, t0, t1, l0⟩ := W
  obtain ⟨r, a', b', e, r0, r1, q0, q1, q2⟩ := draw_ok h t0 (by omega) l0 hm hd
  exact ⟨r, _, e, r0, r1, ⟨a', b', by rw [List.getElem?_set_self hw], q0, by omega, q2⟩, Fr.set _ _ _⟩
theorem num_ok {st : Sto} {w : Nat} {ns : List Int} {T : Nat} (W : Well st w ns T) (hT : T < 8000) :
    ∃ v st', M_law_number [.ob w] st = some (.ok (.int v), st') ∧ Sm 100 v ∧ Well st' w ns (T + 2) ∧ Fr w st st' := by
  obtain ⟨r, s1, e1, r0, r1, W1, f1⟩ := dr (many := 6) W (by omega) (by decide) (by decide)
  have p : powOk 10 30 = true := by decide
  by_cases h : 0 < r
  · obtain ⟨q, s2, e2, q0, q1, W2, f2⟩ := dr (many := 13) W1 (by omega) (by decide) (by decide)
    refine ⟨q - 6, s2, ?_, by unfold Sm; omega, W2, f1.trans f2⟩
    simp [M_law_number, b_law_number, runR, toR_ret, sSeq, sSet, stE, bnd, aCons, aNil, eVar, eK, eCallK, viaM, pick, pick1, e1, eIfx, tVal, tru, truL, eOp2, oGt, oI, h, e2, oSub]
  · obtain ⟨q, s2, e2, q0, q1, W2, f2⟩ := dr (many := 1999999999999999999999999999999) W1 (by omega) (by decide) (divOk_of (n := 200) (by unfold Sm; decide) (by decide) (by decide))
    have m := mulOk_l (i := 2) (j := 1000000000000000000000000000000) (by decide)
    refine ⟨q - 1000000000000000000000000000000 + 1, s2, ?_, by unfold Sm; omega, W2, f1.trans f2⟩
    simp [M_law_number, b_law_number, runR, toR_ret, sSeq, sSet, stE, bnd, aCons, aNil, eVar, eK, eCallK, viaM, pick, pick1, e1, eIfx, tVal, tru, truL, eOp2, oGt, oI, h, e2, oSub, oAdd, oMul, oPow, p, m]
theorem one_ok {st : Sto} {w : Nat} {ns : List Int} {T : Nat} {xs : List LV} (W : Well st w ns T) (hT : T < 8000) (hx : 0 < xs.length) (hs : xs.length < 1000) :
    ∃ (j : Nat) (h : j < xs.length) (st' : Sto), M_law_one [.ob w, .lst xs] st = some (.ok xs[j], st') ∧ Well st' w ns (T + 1) ∧ Fr w st st' := by
  obtain ⟨r, s1, e1, r0, r1, W1, f1⟩ := dr (many := (xs.length : Nat)) W (by omega) (by omega) (divOk_of (n := 10) (by unfold Sm; simpa using Nat.lt_trans hs (by decide)) (by omega) (by decide))
  obtain ⟨j, rfl⟩ : ∃ j : Nat, r = j := ⟨r.toNat, by omega⟩
  have hj : j < xs.length := by omega
  refine ⟨j, hj, s1, ?_, W1, f1⟩
  have at1 : L2.atI xs (j : Int) = some xs[j] := by
    unfold L2.atI L2.ixN
    rw [if_pos (by omega), if_pos r1]
    simp only [Option.bind_some, Int.toNat_natCast, List.getElem?_eq_getElem hj]
  simp [M_law_one, b_law_one, runR, toR_ret, bnd, aCons, aNil, eVar, eCallK, viaM, pick, pick1, eCallB, fLen, e1, eOp2, ixL, vw, at1]
/-! ### what is refused -/
inductive OddV : LV → Sto → Prop where
  | non {st : Sto} : OddV .non st
  | str {z : Str} {st : Sto} : OddV (.str z) st
  | tup {z : List Int} {st : Sto} : OddV (.tup (z.map .int)) st
  | lst {z : List Int} {st : Sto} : OddV (.lst (z.map .int)) st
  | bl {z : Bool} {st : Sto} : OddV (.bl z) st
  | dct {r : Nat} {st : Sto} (h : st[r]? = some (.dct [])) : OddV (.ob r) st
theorem OddV.app {v : LV} {st : Sto} (h : OddV v st) (es : Sto) : OddV v (st ++ es) := by
  cases h with
  | dct h => exact .dct (by rw [List.getElem?_append_left (List.getElem?_eq_some_iff.mp h).1]; exact h)
  | non => exact .non
  | str => exact .str
  | tup => exact .tup
  | lst => exact .lst
  | bl => exact .bl
section
variable {v : LV} {st : Sto}
theorem OddV.ty (h : OddV v st) : ∃ n, tyOf v st = some (.b n) ∧ okB 0 n = true ∧ okR 0 (.b n) = true := by
  cases h with
  | dct h => exact ⟨"dict", by simp only [tyOf, h], by decide, by decide⟩
  | non => exact ⟨_, rfl, by decide, by decide⟩
  | str => exact ⟨_, rfl, by decide, by decide⟩
  | tup => exact ⟨_, rfl, by decide, by decide⟩
  | lst => exact ⟨_, rfl, by decide, by decide⟩
  | bl => exact ⟨_, rfl, by decide, by decide⟩
theorem OddV.isr (h : OddV v st) : isiL isiT [.c 0] v st = some (.ok (.bl false), st) := by
  cases h with
  | dct h => unfold isiL tyOf; simp only [h]; rfl
  | non => rfl
  | str => rfl
  | tup => rfl
  | lst => rfl
  | bl => rfl
theorem OddV.int (h : OddV v st) : M_is_integer [v] st = some (.ok (.bl false), st) := by
  cases h with
  | @dct r _ h =>
    have e1 : isiL isiT [.b "int"] (.ob r) st = some (.ok (.bl false), st) := by unfold isiL tyOf; simp only [h]; rfl
    simp [M_is_integer, b_is_integer, runR, toR_ret, eAn, eIsi, eVar, bnd, e1, tru, truL]
  | non => rfl
  | str => rfl
  | tup => rfl
  | lst => rfl
  | @bl z => cases z <;> rfl
theorem OddV.top (h : OddV v st) : M_top_of [v] st = some (.ex 3 [(2, v)], st) := by
  simp [M_top_of, b_top_of, runR, sSeq, sIf, sNil, stE, bnd, eVar, tVal, tru, truL, eIsi, h.isr, tNt, eCallK, viaM, pick, pick1, aCons, aNil, h.int, sRaise1, toR_ex]
theorem OddV.bot (h : OddV v st) : M_bottom_of [v] st = some (.ok (.int 1), st) := by
  simp [M_bottom_of, b_bottom_of, runR, toR_ret, stE, bnd, eVar, eK, tVal, tru, truL, eIsi, h.isr, eIfx]
end
section
variable {v : LV} {st : Sto} {t b : Int}
theorem init_bad1 {r x : LV} (h : OddV v st) : M_Ratio_init [r, v, x] st = some (.ex 2 [(2, v)], st) := by
  simp [M_Ratio_init, b_Ratio_init, runR, sSeq, sIf, sNil, stE, bnd, eVar, tVal, tru, truL, tNt, eCallK, viaM, pick, pick1, aCons, aNil, h.int, sRaise1, toR_ex]
theorem init_bad2 {r : LV} {i : Int} (h : OddV v st) : M_Ratio_init [r, .int i, v] st = some (.ex 2 [(2, v)], st) := by
  simp [M_Ratio_init, b_Ratio_init, runR, sSeq, sIf, sNil, stE, bnd, eVar, tVal, tru, truL, tNt, tO, isint_int, eCallK, viaM, pick, pick1, aCons, aNil, h.int, sRaise1, toR_ex]
theorem init_zero {r : LV} {i : Int} : M_Ratio_init [r, .int i, .int 0] st = some (.ex 2 [(2, .int 0)], st) := by
  simp [M_Ratio_init, b_Ratio_init, runR, sSeq, sIf, sNil, stE, bnd, eVar, eK, tVal, tru, truL, tNt, tO, isint_int, eCallK, viaM, pick, pick1, aCons, aNil, eOp2, oEq, eqS, atm, eqA, sRaise1, toR_ex]
/-- f ends with an error of the class c that tells v -/
def Rf (r : Rz LV) (c : Nat) (v : LV) (st : Sto) : Prop := ∃ es, r = some (.ex c [(2, v)], st ++ es)
theorem add_bad (h : OddV v st) (hb : mulOk t 1 = true) : M_Ratio_add [rat t b, v] st = some (.ex 3 [(2, v)], st) := by
  simp [M_Ratio_add, b_Ratio_add, f0, f1, h.top, h.bot, hb, runR, toR_ret, stE, bnd, eVar, eCallK, viaM, pick, pick1, eOp2, eOp1, oI, oAdd, oMul, aCons, aNil]
theorem sub_bad (h : OddV v st) (hb : mulOk t 1 = true) : M_Ratio_sub [rat t b, v] st = some (.ex 3 [(2, v)], st) := by
  simp [M_Ratio_sub, b_Ratio_sub, f0, f1, h.top, h.bot, hb, runR, toR_ret, stE, bnd, eVar, eCallK, viaM, pick, pick1, eOp2, eOp1, oI, oSub, oMul, aCons, aNil]
theorem mul_bad (h : OddV v st) : M_Ratio_mul [rat t b, v] st = some (.ex 3 [(2, v)], st) := by
  simp [M_Ratio_mul, b_Ratio_mul, f0, f1, h.top, h.bot, runR, toR_ret, stE, bnd, eVar, eCallK, viaM, pick, pick1, eOp2, eOp1, oI, oMul, aCons, aNil]
theorem over_bad (h : OddV v st) : M_Ratio_over [rat t b, v] st = some (.ex 3 [(2, v)], st) := by
  simp [M_Ratio_over, b_Ratio_over, h.top, runR, toR_ex, sSeq, sIf, sNil, stE, bnd, eVar, eK, tVal, tru, truL, eCallK, viaM, pick, pick1, eOp2, aCons, aNil]
theorem below_bad (h : OddV v st) (hb : mulOk t 1 = true) : M_Ratio_is_below [rat t b, v] st = some (.ex 3 [(2, v)], st) := by
  simp [M_Ratio_is_below, b_Ratio_is_below, f0, f1, h.top, h.bot, hb, runR, toR_ret, stE, bnd, eVar, eCallK, viaM, pick, pick1, eOp2, eOp1, oI, oLt, oMul, aCons, aNil]
theorem most_bad (h : OddV v st) (hb : mulOk t 1 = true) : M_Ratio_is_at_most [rat t b, v] st = some (.ex 3 [(2, v)], st) := by
  simp [M_Ratio_is_at_most, b_Ratio_is_at_most, f0, f1, h.top, h.bot, hb, runR, toR_ret, stE, bnd, eVar, eCallK, viaM, pick, pick1, eOp2, eOp1, oI, oLe, oMul, aCons, aNil]
theorem cls_rat : clsOf (rat t b) st = some 0 := rfl
theorem ownL_odd {F : Mv2} (h : OddV v st) : oOwnL okR (tbOf [(0, F)]) (rat t b) v st = F [rat t b, v] [] st := by
  obtain ⟨n, e, _, k⟩ := h.ty
  simp [oOwnL, cls_rat, e, k, tbOf]
theorem ownR_odd {F : Mv2} (h : OddV v st) : oOwnR okB (tbOf [(0, F)]) v (rat t b) st = F [rat t b, v] [] st := by
  obtain ⟨n, e, k, _⟩ := h.ty
  simp [oOwnR, cls_rat, e, k, tbOf]
theorem radd_bad (h : OddV v st) (hb : mulOk t 1 = true) : M_Ratio_radd [rat t b, v] st = some (.ex 3 [(2, v)], st) := by
  simp [M_Ratio_radd, b_Ratio_radd, runR, toR_ret, bnd, eVar, eOp2, ownL_odd h, viaM, pick, pick1, add_bad h hb]
theorem rsub_bad (h : OddV v st) (hb : mulOk t 1 = true) : M_Ratio_rsub [rat t b, v] st = some (.ex 3 [(2, v)], st) := by
  simp [M_Ratio_rsub, b_Ratio_rsub, runR, toR_ret, bnd, eVar, eOp2, eOp1, ownL_odd h, viaM, pick, pick1, sub_bad h hb]
theorem rmul_bad (h : OddV v st) : M_Ratio_rmul [rat t b, v] st = some (.ex 3 [(2, v)], st) := by
  simp [M_Ratio_rmul, b_Ratio_rmul, runR, toR_ret, bnd, eVar, eOp2, ownL_odd h, viaM, pick, pick1, mul_bad h]
end
section
variable {odd bad one : LV} {st : Sto} {t b : Int} {ls : Ls}
/-- the slots of _law_refused_right -/
structure Sl (ls : Ls) (odd bad one : LV) : Prop where
  h1 : ls[1]? = some (some one)
  h2 : ls[2]? = some (some odd)
  h3 : ls[3]? = some (some bad)
theorem lam0 (s : Sl ls odd bad one) (h : OddV bad st) : Rf (f_law_refused_right_0 ls st) 2 bad st := ⟨[.ins 0 []], by
  simp [f_law_refused_right_0, eCallK, bnd, aCons, aNil, eVar, s.h3, viaI, pick, pick1, init_bad1 (h.app _), mkI]⟩
theorem lam1 (s : Sl ls odd bad one) (h : OddV bad st) : Rf (f_law_refused_right_1 ls st) 2 bad st := ⟨[.ins 0 []], by
  simp [f_law_refused_right_1, eCallK, bnd, aCons, aNil, eVar, eK, s.h3, viaI, pick, pick1, init_bad2 (h.app _), mkI]⟩
theorem lam2 : Rf (f_law_refused_right_2 ls st) 2 (.int 0) st := ⟨[.ins 0 []], by
  simp [f_law_refused_right_2, eCallK, bnd, aCons, aNil, eVar, eK, viaI, pick, pick1, init_zero, mkI]⟩
theorem lam3 (s : Sl ls odd bad (rat t b)) (h : OddV odd st) (hb : mulOk t 1 = true) : Rf (f_law_refused_right_3 ls st) 3 odd st := ⟨[], by
  simp [f_law_refused_right_3, eOp2, bnd, eVar, s.h1, s.h2, ownL_odd h, viaM, pick, pick1, add_bad h hb]⟩
theorem lam4 (s : Sl ls odd bad (rat t b)) (h : OddV odd st) (hb : mulOk t 1 = true) : Rf (f_law_refused_right_4 ls st) 3 odd st := ⟨[], by
  simp [f_law_refused_right_4, eOp2, bnd, eVar, s.h1, s.h2, ownR_odd h, viaM, pick, pick1, radd_bad h hb]⟩
theorem lam5 (s : Sl ls odd bad (rat t b)) (h : OddV odd st) (hb : mulOk t 1 = true) : Rf (f_law_refused_right_5 ls st) 3 odd st := ⟨[], by
  simp [f_law_refused_right_5, eOp2, bnd, eVar, s.h1, s.h2, ownR_odd h, viaM, pick, pick1, rsub_bad h hb]⟩
theorem lam6 (s : Sl ls odd bad (rat t b)) (h : OddV odd st) : Rf (f_law_refused_right_6 ls st) 3 odd st := ⟨[], by
  simp [f_law_refused_right_6, eOp2, bnd, eVar, s.h1, s.h2, ownR_odd h, viaM, pick, pick1, rmul_bad h]⟩
theorem lam7 (s : Sl ls odd bad (rat t b)) (h : OddV odd st) (hb : mulOk t 1 = true) : Rf (f_law_refused_right_7 ls st) 3 odd st := ⟨[], by
  simp [f_law_refused_right_7, eOp2, bnd, eVar, s.h1, s.h2, ownL_odd h, viaM, pick, pick1, sub_bad h hb]⟩
theorem lam8 (s : Sl ls odd bad (rat t b)) (h : OddV odd st) : Rf (f_law_refused_right_8 ls st) 3 odd st := ⟨[], by
  simp [f_law_refused_right_8, eOp2, bnd, eVar, s.h1, s.h2, ownL_odd h, viaM, pick, pick1, mul_bad h]⟩
theorem lam9 (s : Sl ls odd bad (rat t b)) (h : OddV odd st) : Rf (f_law_refused_right_9 ls st) 3 odd st := ⟨[], by
  simp [f_law_refused_right_9, eMethK, bnd, eVar, aCons, aNil, s.h1, s.h2, cls_rat, tbOf, viaM, pick, pick1, over_bad h]⟩
theorem lam10 {n : Nat} (s : Sl ls odd bad (rat t b)) (ht : Sm n t) (hb : Sm n b) (hn : n < 1999) : Rf (f_law_refused_right_10 ls st) 3 (.int 0) st := ⟨[], by
  have o := over_eq (n := n + 1) (st := st) (b := b) (Num.int 0) (ht.mono (Nat.le_succ n)) (hb.mono (Nat.le_succ n)) (by unfold Sm; simp [Nat.pow_pos]) (show Sm (n + 1) 1 from Nat.one_lt_two_pow (Nat.succ_ne_zero n)) (show n + 1 < 2000 by omega)
  simp [f_law_refused_right_10, eMethK, bnd, eVar, eK, aCons, aNil, s.h1, s.h2, cls_rat, tbOf, viaM, pick, pick1, o]⟩
theorem lam11 (s : Sl ls odd bad (rat t b)) (h : OddV odd st) (hb : mulOk t 1 = true) : Rf (f_law_refused_right_11 ls st) 3 odd st := ⟨[], by
  simp [f_law_refused_right_11, eMethK, bnd, eVar, aCons, aNil, s.h1, s.h2, cls_rat, tbOf, viaM, pick, pick1, below_bad h hb]⟩
theorem lam12 (s : Sl ls odd bad (rat t b)) (h : OddV odd st) (hb : mulOk t 1 = true) : Rf (f_law_refused_right_12 ls st) 3 odd st := ⟨[], by
  simp [f_law_refused_right_12, eMethK, bnd, eVar, aCons, aNil, s.h1, s.h2, cls_rat, tbOf, viaM, pick, pick1, most_bad h hb]⟩
theorem lam13 : ∃ v es, f_law_refused_right_13 ls st = some (.ok v, st ++ es) := ⟨rat (Int.fdiv 1 (sg 1 1)) (Int.fdiv 1 (sg 1 1)), [.gone], by
  have e := make_ok (st := st) (t := 1) (b := 1) (by decide) (by decide)
  have e2 : viaI 0 M_Ratio_init [.int 1] [.p 0, .p 1, .d 0] [.int 1] [] st = mk 1 1 st := rfl
  simp only [f_law_refused_right_13, eCallK, bnd, aCons, aNil, eVar, eK, e2, e]⟩
end
/-! ### heard -/
def due (c : Nat) (v : LV) : LV := .tup [.str (if c = 2 then "number" else "ratio"), v]
theorem heard_ex {L : Nat → Sto → Rz LV} {j c : Nat} {v : LV} {st st' : Sto} (hc : c = 2 ∨ c = 3) (h : L j st = some (.ex c [(2, v)], st')) : runB 3 (b_law_heard L) [.lam j] st = some (.ok (due c v), st') := by
  have i2 : isiL isiT [.c 2] (.exc 2 [(2, v)]) st' = some (.ok (.bl true), st') := rfl
  have i3 : isiL isiT [.c 2] (.exc 3 [(2, v)]) st' = some (.ok (.bl false), st') := rfl
  have i4 : isiL isiT [.c 3] (.exc 3 [(2, v)]) st' = some (.ok (.bl true), st') := rfl
  have g : ∀ c, fieldL 2 (.exc c [(2, v)]) st' = some (.ok v, st') := fun c => rfl
  rcases hc with rfl | rfl
  · simp [b_law_heard, runR, sSeq, sSet, sTry, hnd, unb, subT, sDo, eAct, stE, h, eTup, aCons, aNil, eK, bnd, sIf, sNil, tVal, tru, truL, eIsi, eVar, i2, eOp1, g, sRet, toR_rt, due]
  · simp [b_law_heard, runR, sSeq, sSet, sTry, hnd, unb, subT, sDo, eAct, stE, h, eTup, aCons, aNil, eK, bnd, sIf, sNil, tVal, tru, truL, eIsi, eVar, i3, i4, eOp1, g, sRet, toR_rt, due]
theorem heard_ok {L : Nat → Sto → Rz LV} {j : Nat} {v : LV} {st st' : Sto} (h : L j st = some (.ok v, st')) : runB 3 (b_law_heard L) [.lam j] st = some (.ok .non, st') := by
  simp [b_law_heard, runR, sSeq, sSet, sTry, sDo, eAct, stE, h, eK, bnd, eVar, sRet, toR_rt]
/-! ### the calls, one by one -/
def cG : Tg := gT 2 (gsC (gN 5) (gsC (gN 6) gsN))
def cT (L : Nat → Sto → Rz LV) : Tv := tVal (eOp2 oNe (eCallA 3 b_law_heard (fun _ => L) [] [.p 0] (aCons (eVar 5) aNil)) (eVar 6))
/-- item is a lambda and what is heard of it, wherever P holds -/
def Hd (L : Nat → Sto → Rz LV) (P : Sto → Prop) (it : LV) : Prop := ∃ j d, it = .tup [.lam j, d] ∧ ∀ st, P st → ∃ st', P st' ∧ runB 3 (b_law_heard L) [.lam j] st = some (.ok d, st') ∧ oNe d d st' = some (.ok (.bl false), st')
theorem comp_ok {L : Nat → Sto → Rz LV} {P : Sto → Prop} {e : Ev} {ls : Ls} (hl : ls.length = 7) : ∀ {items : List LV}, (∀ it ∈ items, Hd L P it) → ∀ st, P st → ∃ st', P st' ∧ compL [5, 6] cG (cT L) e items ls st = some ([], st')
  | [], _, st, p => ⟨st, p, rfl⟩
  | it :: r, h, st, p => by
    obtain ⟨j, d, rfl, hd⟩ := h it List.mem_cons_self
    obtain ⟨s1, p1, e1, e2⟩ := hd st p
    obtain ⟨s2, p2, e3⟩ := comp_ok (e := e) hl (items := r) (fun it m => h it (List.mem_cons_of_mem _ m)) s1 p1
    refine ⟨s2, p2, ?_⟩
    obtain ⟨a0, a1, a2, a3, a4, a5, a6, rfl⟩ : ∃ a0 a1 a2 a3 a4 a5 a6, ls = [a0, a1, a2, a3, a4, a5, a6] := by
      match ls, hl with
      | [a0, a1, a2, a3, a4, a5, a6], _ => exact ⟨a0, a1, a2, a3, a4, a5, a6, rfl⟩
    have g : cG (.tup [.lam j, d]) (wipeL [a0, a1, a2, a3, a4, a5, a6] [5, 6]) = some [a0, a1, a2, a3, a4, some (.lam j), some d] := rfl
    have t : cT L [a0, a1, a2, a3, a4, some (.lam j), some d] st = some (.ok false, s1) := by
      simp [cT, tVal, eOp2, eCallA, aCons, aNil, eVar, bnd, pick, pick1, e1, e2, tru, truL]
    simp only [compL, g, t, e3]
/-- another call -/
theorem app_ok {ls : Ls} {st : Sto} {xs : List LV} {e : Ev} {v : LV} (h4 : ls[4]? = some (some (.ob st.length))) (he : e ls (st ++ [.lst xs]) = some (.ok v, st ++ [.lst xs])) (hx : xs.length < 1000) :
    sDo (eApp (eVar 4) e) ls (st ++ [.lst xs]) = some (.nx ls, st ++ [.lst (xs ++ [v])]) := by
  have l : (st ++ [MO.lst xs])[st.length]? = some (.lst xs) := by simp
  have hx2 : xs.length < 16777216 := by omega
  have s : (st ++ [MO.lst xs]).set st.length (.lst (xs ++ [v])) = st ++ [.lst (xs ++ [v])] := by simp
  simp only [sDo, eApp, eVar, bnd, h4, l, he, stE, hx2, if_true, s]
def eLam (j : Nat) (z : String) (v : Ev) : Ev := eTup (aCons (eK (.lam j)) (aCons (eTup (aCons (eK (.str z)) (aCons v aNil))) aNil))
theorem eqN_S {n : Nat} {st : Sto} {v w : LV} (h : sameOb v w = false) : eqN (n + 1) st v w = eqS (eqN n st) st v w := by rw [eqN, h]
theorem eqN_int {n : Nat} {st : Sto} {a : Int} : eqN (n + 1) st (.int a) (.int a) = some true := by rw [eqN_S rfl]; simp [eqS, atm, eqA]
theorem eqN_str {n : Nat} {st : Sto} {a : Str} : eqN (n + 1) st (.str a) (.str a) = some true := by rw [eqN_S rfl]; simp [eqS, atm, eqA]
theorem eqN_odd {v : LV} {st : Sto} {n : Nat} (h : OddV v st) : eqN (n + 2) st v v = some true := by
  have il : ∀ (m : Nat) (z : List Int), eqLs (eqN (m + 1) st) (z.map LV.int) (z.map LV.int) = some true := by
    intro m z
    induction z with
    | nil => rfl
    | cons a z ih =>
      simp only [List.map_cons, eqLs, eqN_int, ih]; rfl
  cases h with
  | non => rfl
  | str => exact eqN_str
  | @bl z => cases z <;> rfl
  | tup => rw [eqN_S rfl]; simp only [eqS, atm, vw, if_true, il]
  | lst => rw [eqN_S rfl]; simp only [eqS, atm, vw, if_true, il]
  | dct => rw [eqN]; simp [sameOb]
theorem ne_due {c : Nat} {v : LV} {st : Sto} (h : eqN 20 st v v = some true) : oNe (due c v) (due c v) st = some (.ok (.bl false), st) := by
  have e : eqN 20 st (.str (if c = 2 then "number" else "ratio")) (.str (if c = 2 then "number" else "ratio")) = some true := eqN_str
  simp only [oNe, due, eqS, atm, vw, eqLs, e, h, if_true]; rfl
theorem hd_rf {fbs : List Ev} {k i c : Nat} {v : LV} {f : Ev} {ls : Ls} {P : Sto → Prop} (hP : ∀ st es, P st → P (st ++ es)) (hc : c = 2 ∨ c = 3) (hf : fbs[i]? = some f) (hr : ∀ st, P st → Rf (f ls st) c v st) (hv : ∀ st, P st → eqN 20 st v v = some true) : Hd (lamA k fbs ls) P (.tup [.lam (k + i), due c v]) :=
  ⟨k + i, due c v, rfl, fun st p => by
    obtain ⟨es, e⟩ := hr st p
    refine ⟨st ++ es, hP _ _ p, heard_ex hc ?_, ne_due (hv _ (hP _ _ p))⟩
    have n : ¬ (k + i < k) := by omega
    have s : k + i - k = i := by omega
    simp only [lamA, if_neg n, s, hf, e]⟩
theorem hd_ok {fbs : List Ev} {k i : Nat} {f : Ev} {ls : Ls} {P : Sto → Prop} (hP : ∀ st es, P st → P (st ++ es)) (hf : fbs[i]? = some f) (hr : ∀ st, ∃ v es, f ls st = some (.ok v, st ++ es)) : Hd (lamA k fbs ls) P (.tup [.lam (k + i), .non]) :=
  ⟨k + i, .non, rfl, fun st p => by
    obtain ⟨v, es, e⟩ := hr st
    refine ⟨st ++ es, hP _ _ p, heard_ok (v := v) ?_, rfl⟩
    have n : ¬ (k + i < k) := by omega
    have s : k + i - k = i := by omega
    simp only [lamA, if_neg n, s, hf, e]⟩
def apps (ps : List (Ev × LV)) (R : Sv) : Sv := ps.foldr (fun p s => sSeq (sDo (eApp (eVar 4) p.1)) s) R
theorem apps_ok {ls : Ls} {st : Sto} {R : Sv} (h4 : ls[4]? = some (some (.ob st.length))) : ∀ {ps : List (Ev × LV)} {xs : List LV}, (∀ p ∈ ps, ∀ st, p.1 ls st = some (.ok p.2, st)) → xs.length + ps.length < 1000 → apps ps R ls (st ++ [.lst xs]) = R ls (st ++ [.lst (xs ++ ps.map (·.2))])
  | [], xs, _, _ => by simp [apps]
  | p :: ps, xs, h, hl => by
    have e := app_ok (v := p.2) h4 (h p List.mem_cons_self _) (show xs.length < 1000 by simp at hl; omega)
    have ih := apps_ok (R := R) h4 (ps := ps) (xs := xs ++ [p.2]) (fun q m => h q (List.mem_cons_of_mem _ m)) (by simp at hl ⊢; omega)
    show sSeq (sDo (eApp (eVar 4) p.1)) (apps ps R) ls _ = _
    simp only [sSeq, e, ih, List.map_cons, List.append_assoc, List.singleton_append]
theorem eLam_ok {ls : Ls} {j : Nat} {z : String} {v : Ev} {x : LV} (h : ∀ st, v ls st = some (.ok x, st)) (st : Sto) : eLam j z v ls st = some (.ok (.tup [.lam j, .tup [.str z, x]]), st) := by
  simp [eLam, eTup, aCons, aNil, eK, bnd, h]
theorem OddV.fr {v : LV} {w : Nat} {ns : List Int} {T : Nat} {st st' : Sto} (h : OddV v st) (W : Well st w ns T) (f : Fr w st st') : OddV v st' := by
  cases h with
  | @dct r _ h =>
    obtain ⟨_, _, hw, _⟩ := W
    have n : r ≠ w := by intro e; rw [e, hw] at h; cases h
    exact .dct (by rw [f.2 r n (List.getElem?_eq_some_iff.mp h).1]; exact h)
  | non => exact .non
  | str => exact .str
  | tup => exact .tup
  | lst => exact .lst
  | bl => exact .bl
def oddE : Ev := eLst (aCons (eK .non) (aCons (eK (.str "1/2")) (aCons (eTup (aCons (eK (.int 1)) (aCons (eK (.int 2)) aNil))) (aCons (eLst (aCons (eK (.int 1)) aNil)) (aCons (eK (.bl true)) (aCons (eK (.bl false)) (aCons eDctM aNil)))))))
def badE : Ev := eLst (aCons (eK .non) (aCons (eK (.str "3")) (aCons (eTup (aCons (eK (.int 1)) aNil)) (aCons (eK (.bl true)) (aCons (eK (.bl false)) (aCons (eLst (aCons (eK (.int 2)) aNil)) aNil))))))
def oneE (e : Ev) : Ev := eCallK (viaM M_law_one [] [.p 0, .p 1]) (aCons (eVar 0) (aCons e aNil)) aNil
def rfA : Sv := sAsg (eTup (aCons (oneE oddE) (aCons (oneE badE) aNil))) (gT 2 (gsC (gN 2) (gsC (gN 3) gsN)))
theorem rfA_ok {st : Sto} {w : Nat} {ns : List Int} {T : Nat} {one : LV} (W : Well st w ns T) (hT : T < 7000) : ∃ odd bad st', rfA [some (.ob w), some one, none, none, none, none, none] st = some (.nx [some (.ob w), some one, some odd, some bad, none, none, none], st') ∧ OddV odd st' ∧ OddV bad st' ∧ Well st' w ns (T + 2) := by
  have eo : oddE [some (.ob w), some one, none, none, none, none, none] st = some (.ok (.lst [.non, .str "1/2", .tup [.int 1, .int 2], .lst [.int 1], .bl true, .bl false, .ob st.length]), st ++ [.dct []]) := by
    simp [oddE, eLst, aCons, aNil, eK, eTup, eDctM, bnd]
  obtain ⟨j, hj, s1, e1, W1, f1⟩ := one_ok (xs := [.non, .str "1/2", .tup [.int 1, .int 2], .lst [.int 1], .bl true, .bl false, .ob st.length]) (W.app [.dct []]) (by omega) (by simp) (by simp)
  have o0 : ∀ x ∈ ([.non, .str "1/2", .tup [.int 1, .int 2], .lst [.int 1], .bl true, .bl false, .ob st.length] : List LV), OddV x (st ++ [.dct []]) := by
    intro x hx
    simp only [List.mem_cons, List.not_mem_nil, or_false] at hx
    rcases hx with rfl | rfl | rfl | rfl | rfl | rfl | rfl
    · exact .non
    · exact .str
    · exact .tup (z := [1, 2])
    · exact .lst (z := [1])
    · exact .bl
    · exact .bl
    · exact .dct (by simp)
  have o1 := (o0 _ (List.getElem_mem hj)).fr (W.app [.dct []]) f1
  have eb : badE [some (.ob w), some one, none, none, none, none, none] s1 = some (.ok (.lst [.non, .str "3", .tup [.int 1], .bl true, .bl false, .lst [.int 2]]), s1) := by
    simp [badE, eLst, aCons, aNil, eK, eTup, bnd]
  obtain ⟨i, hi, s2, e2, W2, f2⟩ := one_ok (xs := [.non, .str "3", .tup [.int 1], .bl true, .bl false, .lst [.int 2]]) W1 (by omega) (by simp) (by simp)
  have b0 : ∀ x ∈ ([.non, .str "3", .tup [.int 1], .bl true, .bl false, .lst [.int 2]] : List LV), OddV x s2 := by
    intro x hx
    simp only [List.mem_cons, List.not_mem_nil, or_false] at hx
    rcases hx with rfl | rfl | rfl | rfl | rfl | rfl
    · exact .non
    · exact .str
    · exact .tup (z := [1])
    · exact .bl
    · exact .bl
    · exact .lst (z := [2])
  refine ⟨_, _, s2, ?_, o1.fr W1 f2, b0 _ (List.getElem_mem hi), W2⟩
  generalize ([.non, .str "1/2", .tup [.int 1, .int 2], .lst [.int 1], .bl true, .bl false, .ob st.length] : List LV)[j] = odd at *
  generalize ([.non, .str "3", .tup [.int 1], .bl true, .bl false, .lst [.int 2]] : List LV)[i] = bad at *
  have q1 : oneE oddE [some (.ob w), some one, none, none, none, none, none] st = some (.ok odd, s1) := by
    simp [oneE, eCallK, viaM, pick, pick1, aCons, aNil, eVar, bnd, eo, e1]
  have q2 : oneE badE [some (.ob w), some one, none, none, none, none, none] s1 = some (.ok bad, s2) := by
    simp [oneE, eCallK, viaM, pick, pick1, aCons, aNil, eVar, bnd, eb, e2]
  simp [rfA, sAsg, eTup, aCons, aNil, bnd, q1, q2, stE, gT, gsC, gN, gsN]
end K01

set_option Elab.async false
set_option linter.all false
set_option maxRecDepth 100000
set_option maxHeartbeats 1000000
/-! K01Q: the plain law of k01, the rest. -/
namespace K01
open PySem EL
/-! ### the refusals, all -/
def rest (k : Nat) (odd bad : LV) : List (Ev × LV) :=
  [(eLam (k + 1) "number" (eVar 3), .tup [.lam (k + 1), due 2 bad]),
   (eLam (k + 2) "number" (eK (.int 0)), .tup [.lam (k + 2), due 2 (.int 0)]),
   (eLam (k + 3) "ratio" (eVar 2), .tup [.lam (k + 3), due 3 odd]),
   (eLam (k + 4) "ratio" (eVar 2), .tup [.lam (k + 4), due 3 odd]),
   (eLam (k + 5) "ratio" (eVar 2), .tup [.lam (k + 5), due 3 odd]),
   (eLam (k + 6) "ratio" (eVar 2), .tup [.lam (k + 6), due 3 odd]),
   (eLam (k + 7) "ratio" (eVar 2), .tup [.lam (k + 7), due 3 odd]),
   (eLam (k + 8) "ratio" (eVar 2), .tup [.lam (k + 8), due 3 odd]),
   (eLam (k + 9) "ratio" (eVar 2), .tup [.lam (k + 9), due 3 odd]),
   (eLam (k + 10) "ratio" (eK (.int 0)), .tup [.lam (k + 10), due 3 (.int 0)]),
   (eLam (k + 11) "ratio" (eVar 2), .tup [.lam (k + 11), due 3 odd]),
   (eLam (k + 12) "ratio" (eVar 2), .tup [.lam (k + 12), due 3 odd]),
   (eTup (aCons (eK (.lam (k + 13))) (aCons (eK .non) aNil)), .tup [.lam (k + 13), .non])]
def lastE (k : Nat) : Sv := sRet (eOp2 oEq ((fun ls => eComp (iFrz (eVar 4)) [5, 6] cG (cT (lamA k fbs_law_refused_right ls)) (eVar 6) ls)) (eLst aNil))
theorem b_refused (k : Nat) (odd bad : LV) : b_law_refused_right k = sSeq rfA (sSeq (sSet 4 (eLstM (aCons (eLam (k + 0) "number" (eVar 3)) aNil))) (apps (rest k odd bad) (lastE k))) := rfl
theorem ev_var {ls : Ls} {i : Nat} {v : LV} {st : Sto} (h : ls[i]? = some (some v)) : eVar i ls st = some (.ok v, st) := by simp [eVar, h]
theorem refused_ok {st : Sto} {w : Nat} {ns : List Int} {T n : Nat} {t b : Int} (W : Well st w ns T) (hT : T < 7000) (ht : Sm n t) (hb : Sm n b) (hn : n < 1999) :
    ∃ st', M_law_refused_right [.ob w, rat t b] st = some (.ok (.bl true), st') ∧ Well st' w ns (T + 2) := by
  show ∃ st', runB 7 (b_law_refused_right (freeN [.ob w, rat t b] st)) [.ob w, rat t b] st = some (.ok (.bl true), st') ∧ Well st' w ns (T + 2)
  generalize freeN [.ob w, rat t b] st = k
  obtain ⟨odd, bad, s1, e1, o1, b1, W1⟩ := rfA_ok (one := rat t b) W hT
  have e2 : sSet 4 (eLstM (aCons (eLam (k + 0) "number" (eVar 3)) aNil)) [some (.ob w), some (rat t b), some odd, some bad, none, none, none] s1 = some (.nx [some (.ob w), some (rat t b), some odd, some bad, some (.ob s1.length), none, none], s1 ++ [.lst [.tup [.lam (k + 0), due 2 bad]]]) := rfl
  have e3 : apps (rest k odd bad) (lastE k) [some (.ob w), some (rat t b), some odd, some bad, some (.ob s1.length), none, none] (s1 ++ [.lst [.tup [.lam (k + 0), due 2 bad]]]) = lastE k [some (.ob w), some (rat t b), some odd, some bad, some (.ob s1.length), none, none] (s1 ++ [.lst ([.tup [.lam (k + 0), due 2 bad]] ++ (rest k odd bad).map (·.2))]) := by
    refine apps_ok rfl (fun p hp st => ?_) (by simp [rest])
    simp only [rest, List.mem_cons, List.not_mem_nil, or_false] at hp
    rcases hp with rfl | rfl | rfl | rfl | rfl | rfl | rfl | rfl | rfl | rfl | rfl | rfl | rfl
    · rfl
    · rfl
    · rfl
    · rfl
    · rfl
    · rfl
    · rfl
    · rfl
    · rfl
    · rfl
    · rfl
    · rfl
    · rfl
  have m1 : mulOk t 1 = true := mulOk_of ht (show Sm 1 1 by unfold Sm; decide) (by omega)
  generalize hls : [some (.ob w), some (rat t b), some odd, some bad, some (.ob s1.length), none, none] = ls at *
  have sl : Sl ls odd bad (rat t b) := by subst hls; exact ⟨rfl, rfl, rfl⟩
  have hP : ∀ st es, (OddV odd st ∧ OddV bad st ∧ Well st w ns (T + 2)) → (OddV odd (st ++ es) ∧ OddV bad (st ++ es) ∧ Well (st ++ es) w ns (T + 2)) := fun st es p => ⟨p.1.app es, p.2.1.app es, p.2.2.app es⟩
  have hd : ∀ it ∈ ([.tup [.lam (k + 0), due 2 bad]] ++ (rest k odd bad).map (·.2)), Hd (lamA k fbs_law_refused_right ls) (fun st => OddV odd st ∧ OddV bad st ∧ Well st w ns (T + 2)) it := by
    intro it hi
    simp only [rest, List.map_cons, List.map_nil, List.singleton_append, List.mem_cons, List.not_mem_nil, or_false] at hi
    rcases hi with rfl | rfl | rfl | rfl | rfl | rfl | rfl | rfl | rfl | rfl | rfl | rfl | rfl | rfl
    · exact hd_rf hP (.inl rfl) rfl (fun st p => lam0 sl p.2.1) (fun st p => eqN_odd p.2.1)
    · exact hd_rf hP (.inl rfl) rfl (fun st p => lam1 sl p.2.1) (fun st p => eqN_odd p.2.1)
    · exact hd_rf hP (.inl rfl) rfl (fun st p => lam2) (fun st p => eqN_int)
    · exact hd_rf hP (.inr rfl) rfl (fun st p => lam3 sl p.1 m1) (fun st p => eqN_odd p.1)
    · exact hd_rf hP (.inr rfl) rfl (fun st p => lam4 sl p.1 m1) (fun st p => eqN_odd p.1)
    · exact hd_rf hP (.inr rfl) rfl (fun st p => lam5 sl p.1 m1) (fun st p => eqN_odd p.1)
    · exact hd_rf hP (.inr rfl) rfl (fun st p => lam6 sl p.1) (fun st p => eqN_odd p.1)
    · exact hd_rf hP (.inr rfl) rfl (fun st p => lam7 sl p.1 m1) (fun st p => eqN_odd p.1)
    · exact hd_rf hP (.inr rfl) rfl (fun st p => lam8 sl p.1) (fun st p => eqN_odd p.1)
    · exact hd_rf hP (.inr rfl) rfl (fun st p => lam9 sl p.1) (fun st p => eqN_odd p.1)
    · exact hd_rf hP (.inr rfl) rfl (fun st p => lam10 sl ht hb hn) (fun st p => eqN_int)
    · exact hd_rf hP (.inr rfl) rfl (fun st p => lam11 sl p.1 m1) (fun st p => eqN_odd p.1)
    · exact hd_rf hP (.inr rfl) rfl (fun st p => lam12 sl p.1 m1) (fun st p => eqN_odd p.1)
    · exact hd_ok hP rfl (fun st => lam13)
  have hp : OddV odd (s1 ++ [.gone]) ∧ OddV bad (s1 ++ [.gone]) ∧ Well (s1 ++ [.gone]) w ns (T + 2) := hP _ _ ⟨o1, b1, W1⟩
  obtain ⟨s2, p2, e4⟩ := comp_ok (e := eVar 6) (ls := ls) (by subst hls; rfl) hd _ hp
  refine ⟨s2, ?_, p2.2.2⟩
  have h4 : ls[4]? = some (some (.ob s1.length)) := by subst hls; rfl
  have il : (([LV.tup [.lam (k + 0), due 2 bad]] : List LV) ++ (rest k odd bad).map (·.2)).length = 14 := rfl
  generalize hitems : ([LV.tup [.lam (k + 0), due 2 bad]] : List LV) ++ (rest k odd bad).map (·.2) = items at *
  have fz : iFrz (eVar 4) ls (s1 ++ [.lst items]) = some (.ok items, s1 ++ [.gone]) := by
    have g : (s1 ++ [MO.lst items])[s1.length]? = some (.lst items) := by simp
    have g2 : (s1 ++ [MO.lst items]).set s1.length .gone = s1 ++ [.gone] := by simp
    unfold iFrz
    rw [bnd_ok (ev_var h4)]
    simp only [g, g2]
  have cm : eComp (iFrz (eVar 4)) [5, 6] cG (cT (lamA k fbs_law_refused_right ls)) (eVar 6) ls (s1 ++ [.lst items]) = some (.ok (.lst []), s2) := by
    unfold eComp
    rw [bnd_ok fz, if_pos (by omega)]
    simp only [e4]
  rw [b_refused k odd bad, runR]
  show toR (sSeq rfA _ [some (.ob w), some (rat t b), none, none, none, none, none] st) = _
  rw [sSeq_nx e1, sSeq_nx e2, e3]
  unfold lastE
  rw [toR_ret]
  unfold eOp2
  rw [bnd_ok cm]
  rfl
/-! ### what is reckoned -/
abbrev eIs (e X Y : Ev) : Ev := eCallK (viaM M_law_is [] [.p 0, .p 1, .p 2]) (aCons e (aCons X (aCons Y aNil))) aNil
abbrev fAdd : Nat → Option Mv2 := tbOf [(0, viaM M_Ratio_add [] [.p 0, .p 1])]
abbrev fSub : Nat → Option Mv2 := tbOf [(0, viaM M_Ratio_sub [] [.p 0, .p 1])]
abbrev fMul : Nat → Option Mv2 := tbOf [(0, viaM M_Ratio_mul [] [.p 0, .p 1])]
abbrev fNeg : Nat → Option Mv2 := tbOf [(0, viaM M_Ratio_neg [] [.p 0])]
abbrev fEq : Nat → Option Mv2 := tbOf [(0, viaM M_Ratio_eq [] [.p 0, .p 1])]
theorem Mkd.to {r : Rz LV} {st : Sto} {n : Nat} {X Y X' Y' : Int} (h : Mkd r st n X Y) (e : X = X') (e2 : Y = Y') : Mkd r st n X' Y' := by subst e e2; exact h
section
variable {ls : Ls} {e X Y A B : Ev} {x y : Int} {n m : Nat}
theorem is_g (hq : ∀ st, Mkd (e ls st) st n x y) (hX : Gv X ls (.int x)) (hY : Gv Y ls (.int y)) (y0 : y ≠ 0) (sx : Sm 500 x) (sy : Sm 500 y) : Gv (eIs e X Y) ls (.bl true) := fun st => by
  obtain ⟨t, b, es, h1, l, _, _⟩ := hq st
  obtain ⟨e2, h2⟩ := hX (st ++ es)
  obtain ⟨e3, h3⟩ := hY (st ++ es ++ e2)
  refine ⟨es ++ e2 ++ e3, ?_⟩
  unfold eIs eCallK aCons aNil
  simp only [h1, h2, h3, bnd, viaM, pick, pick1, List.getElem?_cons_zero, List.getElem?_cons_succ, is_ok l y0 sx sy (by decide)]
  simp only [List.append_assoc]
theorem nis_g (hq : ∀ st, Mkd (e ls st) st n x y) (hX : Gv X ls (.int x)) (hY : Gv Y ls (.int y)) (y0 : y ≠ 0) (sx : Sm 500 x) (sy : Sm 500 y) : Gt (tNt (tVal (eIs e X Y))) ls false := (Gt.bl (is_g hq hX hY y0 sx sy)).notT
theorem g_mul (hA : Gv A ls (.int x)) (hB : Gv B ls (.int y)) (sx : Sm n x) (sy : Sm m y) (o : n + m < 900000) : Gv (eOp2 oMul A B) ls (.int (x * y)) :=
  hA.op2 hB fun st => ⟨[], by simp [oMul, oI, mulOk_of sx sy o]⟩
theorem g_add (hA : Gv A ls (.int x)) (hB : Gv B ls (.int y)) : Gv (eOp2 oAdd A B) ls (.int (x + y)) :=
  hA.op2 hB fun st => ⟨[], by simp [oAdd, oI]⟩
theorem g_sub (hA : Gv A ls (.int x)) (hB : Gv B ls (.int y)) : Gv (eOp2 oSub A B) ls (.int (x - y)) :=
  hA.op2 hB fun st => ⟨[], by simp [oSub, oI]⟩
theorem g_neg (hA : Gv A ls (.int x)) : Gv (eOp1 oNeg A) ls (.int (-x)) :=
  hA.op1 fun st => ⟨[], by simp [oNeg]⟩
theorem g_ne (hA : Gv A ls (.int x)) (hB : Gv B ls (.int y)) : Gv (eOp2 oNe A B) ls (.bl (decide (x ≠ y))) :=
  hA.op2 hB fun st => ⟨[], by by_cases h : x = y <;> simp [oNe, eqS, atm, eqA, h]⟩
theorem g_eq (hA : Gv A ls (.int x)) (hB : Gv B ls (.int y)) : Gv (eOp2 oEq A B) ls (.bl (decide (x = y))) :=
  hA.op2 hB fun st => ⟨[], by by_cases h : x = y <;> simp [oEq, eqS, atm, eqA, h]⟩
theorem g_gt (hA : Gv A ls (.int x)) (hB : Gv B ls (.int y)) : Gv (eOp2 oGt A B) ls (.bl (decide (x > y))) :=
  hA.op2 hB fun st => ⟨[], by simp [oGt, oI]⟩
theorem g_lt (hA : Gv A ls (.int x)) (hB : Gv B ls (.int y)) : Gv (eOp2 oLt A B) ls (.bl (decide (x < y))) :=
  hA.op2 hB fun st => ⟨[], by simp [oLt, oI]⟩
theorem g_le (hA : Gv A ls (.int x)) (hB : Gv B ls (.int y)) : Gv (eOp2 oLe A B) ls (.bl (decide (x ≤ y))) :=
  hA.op2 hB fun st => ⟨[], by simp [oLe, oI]⟩
end
theorem okR_i : okR 0 (.b "int") = true := by decide
theorem okB_i : okB 0 "int" = true := by decide
theorem okR_t : okR 0 (.b "tuple") = true := by decide
section
variable {t u t' u' m : Int} {st : Sto} {F : Mv2}
theorem ownL_rat : oOwnL okR (tbOf [(0, F)]) (rat t u) (rat t' u') st = F [rat t u, rat t' u'] [] st := rfl
theorem ownL_int : oOwnL okR (tbOf [(0, F)]) (rat t u) (.int m) st = F [rat t u, .int m] [] st := by simp [oOwnL, cls_rat, tyOf, okR_i, tbOf]
theorem ownL_tup {xs : List LV} : oOwnL okR (tbOf [(0, F)]) (rat t u) (.tup xs) st = F [rat t u, .tup xs] [] st := by simp [oOwnL, cls_rat, tyOf, okR_t, tbOf]
theorem ownR_int : oOwnR okB (tbOf [(0, F)]) (.int m) (rat t u) st = F [rat t u, .int m] [] st := by simp [oOwnR, cls_rat, tyOf, okB_i, tbOf]
theorem radd_eq : M_Ratio_radd [rat t u, .int m] st = M_Ratio_add [rat t u, .int m] st := by
  simp only [M_Ratio_radd, b_Ratio_radd, runR, toR_ret]
  show oOwnL okR fAdd (rat t u) (.int m) st = _
  rw [ownL_int]; rfl
theorem rmul_eq : M_Ratio_rmul [rat t u, .int m] st = M_Ratio_mul [rat t u, .int m] st := by
  simp only [M_Ratio_rmul, b_Ratio_rmul, runR, toR_ret]
  show oOwnL okR fMul (rat t u) (.int m) st = _
  rw [ownL_int]; rfl
theorem rsub_eq : M_Ratio_rsub [rat t u, .int m] st = bnd (M_Ratio_sub [rat t u, .int m] st) fun v st => oOwn1 fNeg v st := by
  simp only [M_Ratio_rsub, b_Ratio_rsub, runR, toR_ret]
  show bnd (oOwnL okR fSub (rat t u) (.int m) st) _ = _
  rw [ownL_int]; rfl
end
/-! ### comparing -/
theorem cmp_math {t u t' u' A B C D : Int} (e1 : t * B = A * u) (e2 : t' * D = C * u') : (t * u' - t' * u) * (B * D) = (u * u') * (A * D - C * B) := by
  have h1 : (t * u' - t' * u) * (B * D) = (t * B) * (u' * D) - (t' * D) * (u * B) := by grind
  rw [h1, e1, e2]; grind
theorem sgn1 {d p k g : Int} (k0 : 0 < k) (p0 : 0 < p) (e : d * p = k * g) : (d < 0 ↔ g < 0) ∧ (d = 0 ↔ g = 0) := by
  refine ⟨⟨fun h => ?_, fun h => ?_⟩, fun h => ?_, fun h => ?_⟩
  · apply Int.lt_of_not_ge
    intro q
    have := Int.mul_neg_of_neg_of_pos h p0
    have := Int.mul_nonneg (Int.le_of_lt k0) q
    omega
  · apply Int.lt_of_not_ge
    intro q
    have := Int.mul_neg_of_pos_of_neg k0 h
    have := Int.mul_nonneg q (Int.le_of_lt p0)
    omega
  · subst h
    rw [Int.zero_mul] at e
    rcases Int.mul_eq_zero.mp e.symm with h | h <;> omega
  · subst h
    rw [Int.mul_zero] at e
    rcases Int.mul_eq_zero.mp e with h | h <;> omega
def sgn (p : Int) : Int := if p > 0 then 1 else -1
theorem sgn_ok {d p k g : Int} (k0 : 0 < k) (p0 : p ≠ 0) (e : d * p = k * g) : (d < 0 ↔ sgn p * g < 0) ∧ (d = 0 ↔ sgn p * g = 0) ∧ (d ≤ 0 ↔ sgn p * g ≤ 0) := by
  have key : (d < 0 ↔ sgn p * g < 0) ∧ (d = 0 ↔ sgn p * g = 0) := by
    unfold sgn
    by_cases h : p > 0
    · rw [if_pos h, Int.one_mul]; exact sgn1 k0 h e
    · rw [if_neg h]
      have e2 : -1 * g = -g := by omega
      rw [e2]
      exact sgn1 (p := -p) k0 (by omega) (by rw [Int.mul_neg, Int.mul_neg, e])
  refine ⟨key.1, key.2, ?_⟩
  have a := key.1; have b := key.2
  omega
theorem low_self {t u a b : Int} (h : Low t u a b) : Low t u t u := ⟨h.pos, h.cop, rfl⟩
theorem eq_rat {t u t' u' : Int} {st : Sto} : M_Ratio_eq [rat t u, rat t' u'] st = some (.ok (.bl (decide (t = t') && decide (u = u'))), st) := by
  have i0 : isiL isiT [.c 0] (rat t' u') st = some (.ok (.bl true), st) := rfl
  by_cases h : t = t'
  · by_cases h2 : u = u'
    · simp [M_Ratio_eq, b_Ratio_eq, runR, toR_ret, eAn, eIsi, eVar, bnd, i0, tru, truL, eOp2, eOp1, f0, f1, oEq, eqS, atm, eqA, h, h2]
    · simp [M_Ratio_eq, b_Ratio_eq, runR, toR_ret, eAn, eIsi, eVar, bnd, i0, tru, truL, eOp2, eOp1, f0, f1, oEq, eqS, atm, eqA, h, h2]
  · have h' : (t == t') = false := beq_false_of_ne h
    simp [M_Ratio_eq, b_Ratio_eq, runR, toR_ret, eAn, eIsi, eVar, bnd, i0, tru, truL, eOp2, eOp1, f0, f1, oEq, eqS, atm, eqA, h, h']
theorem eq_int {t u m : Int} {st : Sto} : M_Ratio_eq [rat t u, .int m] st = some (.ok (.bl false), st) := by
  have i0 : isiL isiT [.c 0] (.int m) st = some (.ok (.bl false), st) := rfl
  simp [M_Ratio_eq, b_Ratio_eq, runR, toR_ret, eAn, eIsi, eVar, bnd, i0, tru, truL]
theorem eq_tup {t u : Int} {xs : List LV} {st : Sto} : M_Ratio_eq [rat t u, .tup xs] st = some (.ok (.bl false), st) := by
  have i0 : isiL isiT [.c 0] (.tup xs) st = some (.ok (.bl false), st) := rfl
  simp [M_Ratio_eq, b_Ratio_eq, runR, toR_ret, eAn, eIsi, eVar, bnd, i0, tru, truL]
/-! ### one turn -/
abbrev eNum : Ev := eCallK (viaM M_law_number [] [.p 0]) (aCons (eVar 0) aNil) aNil
theorem num_e {st : Sto} {w : Nat} {ns : List Int} {T : Nat} {ls : Ls} (h0 : ls[0]? = some (some (.ob w))) (W : Well st w ns T) (hT : T < 8000) :
    ∃ v st', eNum ls st = some (.ok (.int v), st') ∧ Sm 100 v ∧ Well st' w ns (T + 2) := by
  obtain ⟨v, s1, e, sm, W1, _⟩ := num_ok W hT
  refine ⟨v, s1, ?_, sm, W1⟩
  unfold eNum eCallK aCons aNil
  simp only [ev_var h0, bnd, viaM, pick, pick1, List.getElem?_cons_zero, e]
def mt (a b : Int) : Int := a.fdiv (sg a b)
def mb (a b : Int) : Int := b.fdiv (sg a b)
theorem mk_eq {a b : Int} (h : b ≠ 0) (s : Sm 7000 b) (st : Sto) : mk a b st = some (.ok (rat (mt a b) (mb a b)), st ++ [.gone]) := make_ok h (divOk_of (sg_sm h s) (sg_ne h) (by omega))
theorem ean_t {a b : Ev} {ls : Ls} {st st' : Sto} (h : a ls st = some (.ok (.bl true), st')) : eAn a b ls st = b ls st' := by
  unfold eAn; rw [bnd_ok h]; rfl
theorem ne_bl (p : Bool) (st : Sto) : oNe (.bl p) (.bl p) st = some (.ok (.bl false), st) := by cases p <;> rfl
theorem ne_l4 (p q r s : Bool) (st : Sto) : oNe (.lst [.bl p, .bl q, .bl r, .bl s]) (.lst [.bl p, .bl q, .bl r, .bl s]) st = some (.ok (.bl false), st) := by cases p <;> cases q <;> cases r <;> cases s <;> rfl
abbrev soT : Tv := tAn (tVal (eOp2 (oIs false) (eVar 12) (eK (.bl true)))) (tVal (eOp2 (oIs false) (eVar 12) (eK (.bl false))))
theorem so_ok {st : Sto} {ls : Ls} (hl : ls.length = 14) : ∀ bs : List Bool, compL [12] (gN 12) soT (eVar 12) (bs.map .bl) ls st = some ([], st)
  | [] => rfl
  | b :: bs => by
    have ih := so_ok (st := st) hl bs
    have g : gN 12 (.bl b) (wipeL ls [12]) = some ((wipeL ls [12]).set 12 (some (.bl b))) := rfl
    have hw : (wipeL ls [12]).length = 14 := by simp [wipeL, hl]
    have g2 : ((wipeL ls [12]).set 12 (some (.bl b)))[12]? = some (some (.bl b)) := by rw [List.getElem?_set_self (by omega)]
    have t : soT ((wipeL ls [12]).set 12 (some (.bl b))) st = some (.ok false, st) := by
      cases b <;> simp [soT, tAn, tVal, tru, truL, eOp2, eVar, g2, eK, oIs, bnd]
    simp only [List.map_cons, compL, g, t, ih]
end K01

set_option Elab.async false
set_option linter.all false
set_option maxRecDepth 100000
set_option maxHeartbeats 2000000
/-! K01R: the plain law of k01, one turn and the whole. -/
namespace K01
open PySem EL
abbrev X6 : Ev := eVar 6
abbrev X7 : Ev := eVar 7
abbrev n0 : Ev := eK (.int 0)
/-- the slots of a turn, once both fractions are made -/
def L4 (w : Nat) (a c m b d t u t' u' : Int) (x8 x9 x10 x11 : Option LV) : Ls := [some (.ob w), some (.int a), some (.int c), some (.int m), some (.int b), some (.int d), some (rat t u), some (rat t' u'), x8, x9, x10, x11, none, none]
structure Tn (a c m b d t u t' u' : Int) : Prop where
  l : Low t u a b
  l' : Low t' u' c d
  b0 : b ≠ 0
  d0 : d ≠ 0
  sa : Sm 100 a
  sc : Sm 100 c
  sm : Sm 100 m
  sb : Sm 100 b
  sd : Sm 100 d
  st : Sm 100 t
  su : Sm 100 u
  st' : Sm 100 t'
  su' : Sm 100 u'
section
variable {w : Nat} {a c m b d t u t' u' : Int} {x8 x9 x10 x11 : Option LV}
theorem v1 : Gv (eVar 1) (L4 w a c m b d t u t' u' x8 x9 x10 x11) (.int a) := Gv.var rfl
theorem v2 : Gv (eVar 2) (L4 w a c m b d t u t' u' x8 x9 x10 x11) (.int c) := Gv.var rfl
theorem v3 : Gv (eVar 3) (L4 w a c m b d t u t' u' x8 x9 x10 x11) (.int m) := Gv.var rfl
theorem v4 : Gv (eVar 4) (L4 w a c m b d t u t' u' x8 x9 x10 x11) (.int b) := Gv.var rfl
theorem v5 : Gv (eVar 5) (L4 w a c m b d t u t' u' x8 x9 x10 x11) (.int d) := Gv.var rfl
theorem v6 : Gv (eVar 6) (L4 w a c m b d t u t' u' x8 x9 x10 x11) (rat t u) := Gv.var rfl
theorem v7 : Gv (eVar 7) (L4 w a c m b d t u t' u' x8 x9 x10 x11) (rat t' u') := Gv.var rfl
theorem s1 : Sm 100 (1 : Int) := by unfold Sm; decide
variable (h : Tn a c m b d t u t' u')
include h
theorem q6 (st : Sto) : Mkd (eVar 6 (L4 w a c m b d t u t' u' x8 x9 x10 x11) st) st 100 a b := ⟨t, u, [], by rw [ev_var (v := rat t u) rfl, List.append_nil], h.l, h.st, h.su⟩
theorem qm (st : Sto) : Mkd (eCallK (viaI 0 M_Ratio_init [.int 1] [.p 0, .p 1, .d 0]) (aCons (eVar 3) aNil) aNil (L4 w a c m b d t u t' u' x8 x9 x10 x11) st) st 100 m 1 := by
  show Mkd (mk m 1 st) st 100 m 1
  exact make (by decide) h.sm s1 (by decide)
theorem qneg (st : Sto) : Mkd (eOp1 (oOwn1 fNeg) (eVar 6) (L4 w a c m b d t u t' u' x8 x9 x10 x11) st) st 100 (-a) b := by
  show Mkd (M_Ratio_neg [rat t u] st) st 100 (-a) b
  exact neg_ok h.l h.b0 h.st h.su (by decide)
theorem Tn.N' : Num (rat t' u') t' u' c d := Num.rat h.l' h.d0
theorem qadd (st : Sto) : Mkd (eOp2 (oOwnL okR fAdd) (eVar 6) (eVar 7) (L4 w a c m b d t u t' u' x8 x9 x10 x11) st) st 201 (a * d + c * b) (b * d) := by
  show Mkd (M_Ratio_add [rat t u, rat t' u'] st) st 201 _ _
  exact add_ok h.l h.b0 h.N' h.st h.su h.st' h.su' (by decide)
theorem qsub (st : Sto) : Mkd (eOp2 (oOwnL okR fSub) (eVar 6) (eVar 7) (L4 w a c m b d t u t' u' x8 x9 x10 x11) st) st 201 (a * d - c * b) (b * d) := by
  show Mkd (M_Ratio_sub [rat t u, rat t' u'] st) st 201 _ _
  exact sub_ok h.l h.b0 h.N' h.st h.su h.st' h.su' (by decide)
theorem qmul (st : Sto) : Mkd (eOp2 (oOwnL okR fMul) (eVar 6) (eVar 7) (L4 w a c m b d t u t' u' x8 x9 x10 x11) st) st 201 (a * c) (b * d) := by
  show Mkd (M_Ratio_mul [rat t u, rat t' u'] st) st 201 _ _
  exact mul_ok h.l h.b0 h.N' h.st h.su h.st' h.su' (by decide)
theorem qover (c0 : c ≠ 0) (st : Sto) : Mkd (eMethK (tbOf [(0, viaM M_Ratio_over [] [.p 0, .p 1])]) (eVar 6) (aCons (eVar 7) aNil) aNil (L4 w a c m b d t u t' u' x8 x9 x10 x11) st) st 201 (a * d) (b * c) := by
  show Mkd (M_Ratio_over [rat t u, rat t' u'] st) st 201 _ _
  exact over_ok h.l h.b0 h.N' c0 h.st h.su h.st' h.su' (by decide)
theorem qoverm (m0 : m ≠ 0) (st : Sto) : Mkd (eMethK (tbOf [(0, viaM M_Ratio_over [] [.p 0, .p 1])]) (eVar 6) (aCons (eVar 3) aNil) aNil (L4 w a c m b d t u t' u' x8 x9 x10 x11) st) st 201 a (b * m) := by
  show Mkd (M_Ratio_over [rat t u, .int m] st) st 201 _ _
  exact (over_ok h.l h.b0 (Num.int m) m0 h.st h.su h.sm s1 (by decide)).to (Int.mul_one a) rfl
theorem eadd (st : Sto) : Mkd (M_Ratio_add [rat t u, .int m] st) st 201 (a + m * b) b :=
  (add_ok h.l h.b0 (Num.int m) h.st h.su h.sm s1 (by decide)).to (by rw [Int.mul_one]) (Int.mul_one b)
theorem esub (st : Sto) : Mkd (M_Ratio_sub [rat t u, .int m] st) st 201 (a - m * b) b :=
  (sub_ok h.l h.b0 (Num.int m) h.st h.su h.sm s1 (by decide)).to (by rw [Int.mul_one]) (Int.mul_one b)
theorem emul (st : Sto) : Mkd (M_Ratio_mul [rat t u, .int m] st) st 201 (m * a) b :=
  (mul_ok h.l h.b0 (Num.int m) h.st h.su h.sm s1 (by decide)).to (Int.mul_comm a m) (Int.mul_one b)
theorem qaddm (st : Sto) : Mkd (eOp2 (oOwnL okR fAdd) (eVar 6) (eVar 3) (L4 w a c m b d t u t' u' x8 x9 x10 x11) st) st 201 (a + m * b) b := by
  show Mkd (oOwnL okR fAdd (rat t u) (.int m) st) st 201 _ _
  rw [ownL_int]; exact eadd h st
theorem qradd (st : Sto) : Mkd (eOp2 (oOwnR okB (tbOf [(0, viaM M_Ratio_radd [] [.p 0, .p 1])])) (eVar 3) (eVar 6) (L4 w a c m b d t u t' u' x8 x9 x10 x11) st) st 201 (a + m * b) b := by
  show Mkd (oOwnR okB (tbOf [(0, viaM M_Ratio_radd [] [.p 0, .p 1])]) (.int m) (rat t u) st) st 201 _ _
  rw [ownR_int]
  show Mkd (M_Ratio_radd [rat t u, .int m] st) st 201 _ _
  rw [radd_eq]; exact eadd h st
theorem qsubm (st : Sto) : Mkd (eOp2 (oOwnL okR fSub) (eVar 6) (eVar 3) (L4 w a c m b d t u t' u' x8 x9 x10 x11) st) st 201 (a - m * b) b := by
  show Mkd (oOwnL okR fSub (rat t u) (.int m) st) st 201 _ _
  rw [ownL_int]; exact esub h st
theorem qrsub (st : Sto) : Mkd (eOp2 (oOwnR okB (tbOf [(0, viaM M_Ratio_rsub [] [.p 0, .p 1])])) (eVar 3) (eVar 6) (L4 w a c m b d t u t' u' x8 x9 x10 x11) st) st 201 (m * b - a) b := by
  show Mkd (oOwnR okB (tbOf [(0, viaM M_Ratio_rsub [] [.p 0, .p 1])]) (.int m) (rat t u) st) st 201 _ _
  rw [ownR_int]
  show Mkd (M_Ratio_rsub [rat t u, .int m] st) st 201 _ _
  obtain ⟨t1, b1, es, e1, l1, z1, z2⟩ := esub h st
  rw [rsub_eq, bnd_ok e1]
  show Mkd (M_Ratio_neg [rat t1 b1] (st ++ es)) st 201 _ _
  obtain ⟨t2, b2, es2, e2, l2, y1, y2⟩ := neg_ok (st := st ++ es) l1 h.b0 z1 z2 (by decide)
  refine ⟨t2, b2, es ++ es2, by rw [e2, List.append_assoc], ?_, y1, y2⟩
  have : -(a - m * b) = m * b - a := by omega
  rw [← this]; exact l2
theorem qmulm (st : Sto) : Mkd (eOp2 (oOwnL okR fMul) (eVar 6) (eVar 3) (L4 w a c m b d t u t' u' x8 x9 x10 x11) st) st 201 (m * a) b := by
  show Mkd (oOwnL okR fMul (rat t u) (.int m) st) st 201 _ _
  rw [ownL_int]; exact emul h st
theorem qrmul (st : Sto) : Mkd (eOp2 (oOwnR okB (tbOf [(0, viaM M_Ratio_rmul [] [.p 0, .p 1])])) (eVar 3) (eVar 6) (L4 w a c m b d t u t' u' x8 x9 x10 x11) st) st 201 (m * a) b := by
  show Mkd (oOwnR okB (tbOf [(0, viaM M_Ratio_rmul [] [.p 0, .p 1])]) (.int m) (rat t u) st) st 201 _ _
  rw [ownR_int]
  show Mkd (M_Ratio_rmul [rat t u, .int m] st) st 201 _ _
  rw [rmul_eq]; exact emul h st
/-! products of the checker -/
theorem pad : Gv (eOp2 oMul (eVar 1) (eVar 5)) (L4 w a c m b d t u t' u' x8 x9 x10 x11) (.int (a * d)) := g_mul v1 v5 h.sa h.sd (by decide)
theorem pcb : Gv (eOp2 oMul (eVar 2) (eVar 4)) (L4 w a c m b d t u t' u' x8 x9 x10 x11) (.int (c * b)) := g_mul v2 v4 h.sc h.sb (by decide)
theorem pbd : Gv (eOp2 oMul (eVar 4) (eVar 5)) (L4 w a c m b d t u t' u' x8 x9 x10 x11) (.int (b * d)) := g_mul v4 v5 h.sb h.sd (by decide)
theorem pac : Gv (eOp2 oMul (eVar 1) (eVar 2)) (L4 w a c m b d t u t' u' x8 x9 x10 x11) (.int (a * c)) := g_mul v1 v2 h.sa h.sc (by decide)
theorem pmb : Gv (eOp2 oMul (eVar 3) (eVar 4)) (L4 w a c m b d t u t' u' x8 x9 x10 x11) (.int (m * b)) := g_mul v3 v4 h.sm h.sb (by decide)
theorem pma : Gv (eOp2 oMul (eVar 3) (eVar 1)) (L4 w a c m b d t u t' u' x8 x9 x10 x11) (.int (m * a)) := g_mul v3 v1 h.sm h.sa (by decide)
theorem pbc : Gv (eOp2 oMul (eVar 4) (eVar 2)) (L4 w a c m b d t u t' u' x8 x9 x10 x11) (.int (b * c)) := g_mul v4 v2 h.sb h.sc (by decide)
theorem pbm : Gv (eOp2 oMul (eVar 4) (eVar 3)) (L4 w a c m b d t u t' u' x8 x9 x10 x11) (.int (b * m)) := g_mul v4 v3 h.sb h.sm (by decide)
omit h
theorem z2 {x y : Int} (p : Sm 100 x) (q : Sm 100 y) : Sm 500 (x * y) := (p.mul q).mono (by decide)
theorem z3 {x y z v : Int} (p : Sm 100 x) (q : Sm 100 y) (p' : Sm 100 z) (q' : Sm 100 v) : Sm 500 (x * y + z * v) := ((p.mul q).add (p'.mul q')).mono (by decide)
theorem z4 {x y z v : Int} (p : Sm 100 x) (q : Sm 100 y) (p' : Sm 100 z) (q' : Sm 100 v) : Sm 500 (x * y - z * v) := ((p.mul q).sub (p'.mul q')).mono (by decide)
theorem z5 {x z v : Int} (p : Sm 100 x) (p' : Sm 100 z) (q' : Sm 100 v) : Sm 500 (x + z * v) := (p.add (p'.mul q')).mono (by decide)
theorem z6 {x z v : Int} (p : Sm 100 x) (p' : Sm 100 z) (q' : Sm 100 v) : Sm 500 (x - z * v) := (p.sub (p'.mul q')).mono (by decide)
theorem z7 {x z v : Int} (p : Sm 100 x) (p' : Sm 100 z) (q' : Sm 100 v) : Sm 500 (z * v - x) := ((p'.mul q').sub p).mono (by decide)
theorem z1 {x : Int} (p : Sm 100 x) : Sm 500 x := p.mono (by decide)
include h
theorem bd0 : b * d ≠ 0 := Int.mul_ne_zero h.b0 h.d0
theorem c1 : Gt (tO (tNt (tVal (eIs (eVar 6) (eVar 1) (eVar 4)))) (tO (tNt (tVal (eIs (eCallK (viaI 0 M_Ratio_init [.int 1] [.p 0, .p 1, .d 0]) (aCons (eVar 3) aNil) aNil) (eVar 3) (eK (.int 1))))) (tNt (tVal (eIs (eOp1 (oOwn1 fNeg) (eVar 6)) (eOp1 oNeg (eVar 1)) (eVar 4)))))) (L4 w a c m b d t u t' u' x8 x9 x10 x11) false :=
  Gt.or (nis_g (q6 h) v1 v4 h.b0 (z1 h.sa) (z1 h.sb)) (Gt.or (nis_g (qm h) v3 Gv.k (by decide) (z1 h.sm) (z1 s1)) (nis_g (qneg h) (g_neg v1) v4 h.b0 (z1 h.sa.neg) (z1 h.sb)))
theorem c2 : Gt (tO (tNt (tVal (eIs (eOp2 (oOwnL okR fAdd) (eVar 6) (eVar 7)) (eOp2 oAdd (eOp2 oMul (eVar 1) (eVar 5)) (eOp2 oMul (eVar 2) (eVar 4))) (eOp2 oMul (eVar 4) (eVar 5))))) (tO (tNt (tVal (eIs (eOp2 (oOwnL okR fSub) (eVar 6) (eVar 7)) (eOp2 oSub (eOp2 oMul (eVar 1) (eVar 5)) (eOp2 oMul (eVar 2) (eVar 4))) (eOp2 oMul (eVar 4) (eVar 5))))) (tNt (tVal (eIs (eOp2 (oOwnL okR fMul) (eVar 6) (eVar 7)) (eOp2 oMul (eVar 1) (eVar 2)) (eOp2 oMul (eVar 4) (eVar 5))))))) (L4 w a c m b d t u t' u' x8 x9 x10 x11) false :=
  Gt.or (nis_g (qadd h) (g_add (pad h) (pcb h)) (pbd h) (bd0 h) (z3 h.sa h.sd h.sc h.sb) (z2 h.sb h.sd)) (Gt.or (nis_g (qsub h) (g_sub (pad h) (pcb h)) (pbd h) (bd0 h) (z4 h.sa h.sd h.sc h.sb) (z2 h.sb h.sd)) (nis_g (qmul h) (pac h) (pbd h) (bd0 h) (z2 h.sa h.sc) (z2 h.sb h.sd)))
theorem c3 : Gt (tO (tNt (tVal (eIs (eOp2 (oOwnL okR fAdd) (eVar 6) (eVar 3)) (eOp2 oAdd (eVar 1) (eOp2 oMul (eVar 3) (eVar 4))) (eVar 4)))) (tO (tNt (tVal (eIs (eOp2 (oOwnR okB (tbOf [(0, viaM M_Ratio_radd [] [.p 0, .p 1])])) (eVar 3) (eVar 6)) (eOp2 oAdd (eVar 1) (eOp2 oMul (eVar 3) (eVar 4))) (eVar 4)))) (tNt (tVal (eIs (eOp2 (oOwnL okR fSub) (eVar 6) (eVar 3)) (eOp2 oSub (eVar 1) (eOp2 oMul (eVar 3) (eVar 4))) (eVar 4)))))) (L4 w a c m b d t u t' u' x8 x9 x10 x11) false :=
  Gt.or (nis_g (qaddm h) (g_add v1 (pmb h)) v4 h.b0 (z5 h.sa h.sm h.sb) (z1 h.sb)) (Gt.or (nis_g (qradd h) (g_add v1 (pmb h)) v4 h.b0 (z5 h.sa h.sm h.sb) (z1 h.sb)) (nis_g (qsubm h) (g_sub v1 (pmb h)) v4 h.b0 (z6 h.sa h.sm h.sb) (z1 h.sb)))
theorem c4 : Gt (tO (tNt (tVal (eIs (eOp2 (oOwnR okB (tbOf [(0, viaM M_Ratio_rsub [] [.p 0, .p 1])])) (eVar 3) (eVar 6)) (eOp2 oSub (eOp2 oMul (eVar 3) (eVar 4)) (eVar 1)) (eVar 4)))) (tO (tNt (tVal (eIs (eOp2 (oOwnR okB (tbOf [(0, viaM M_Ratio_rmul [] [.p 0, .p 1])])) (eVar 3) (eVar 6)) (eOp2 oMul (eVar 3) (eVar 1)) (eVar 4)))) (tNt (tVal (eIs (eOp2 (oOwnL okR fMul) (eVar 6) (eVar 3)) (eOp2 oMul (eVar 3) (eVar 1)) (eVar 4)))))) (L4 w a c m b d t u t' u' x8 x9 x10 x11) false :=
  Gt.or (nis_g (qrsub h) (g_sub (pmb h) v1) v4 h.b0 (z7 h.sa h.sm h.sb) (z1 h.sb)) (Gt.or (nis_g (qrmul h) (pma h) v4 h.b0 (z2 h.sm h.sa) (z1 h.sb)) (nis_g (qmulm h) (pma h) v4 h.b0 (z2 h.sm h.sa) (z1 h.sb)))
theorem c5 : Gt (tO (tAn (tVal (eOp2 oNe (eVar 2) n0)) (tNt (tVal (eIs (eMethK (tbOf [(0, viaM M_Ratio_over [] [.p 0, .p 1])]) (eVar 6) (aCons (eVar 7) aNil) aNil) (eOp2 oMul (eVar 1) (eVar 5)) (eOp2 oMul (eVar 4) (eVar 2)))))) (tAn (tVal (eOp2 oNe (eVar 3) n0)) (tNt (tVal (eIs (eMethK (tbOf [(0, viaM M_Ratio_over [] [.p 0, .p 1])]) (eVar 6) (aCons (eVar 3) aNil) aNil) (eVar 1) (eOp2 oMul (eVar 4) (eVar 3))))))) (L4 w a c m b d t u t' u' x8 x9 x10 x11) false := by
  refine Gt.or ?_ ?_
  · by_cases z : c = 0
    · exact Gt.andF ((Gt.bl (g_ne v2 Gv.k)).to (by simp [z]))
    · exact Gt.and ((Gt.bl (g_ne v2 Gv.k)).to (by simp [z])) (nis_g (qover h z) (pad h) (pbc h) (Int.mul_ne_zero h.b0 z) (z2 h.sa h.sd) (z2 h.sb h.sc))
  · by_cases z : m = 0
    · exact Gt.andF ((Gt.bl (g_ne v3 Gv.k)).to (by simp [z]))
    · exact Gt.and ((Gt.bl (g_ne v3 Gv.k)).to (by simp [z])) (nis_g (qoverm h z) v1 (pbm h) (Int.mul_ne_zero h.b0 z) (z1 h.sa) (z2 h.sb h.sm))
/-! signs, gaps -/
theorem g8 : Gv (eIfx (tVal (eOp2 oGt (eOp2 oMul (eVar 4) (eVar 5)) n0)) (eK (.int 1)) (eOp1 oNeg (eK (.int 1)))) (L4 w a c m b d t u t' u' x8 x9 x10 x11) (.int (sgn (b * d))) := by
  unfold sgn
  by_cases p : b * d > 0
  · rw [if_pos p]
    exact Gv.ifxT ((Gt.bl (g_gt (pbd h) Gv.k)).to (by simp [p])) Gv.k
  · rw [if_neg p]
    exact Gv.ifxF ((Gt.bl (g_gt (pbd h) Gv.k)).to (by simp [p])) (g_neg Gv.k)
end
section
variable {w : Nat} {a c m b d t u t' u' : Int} (h : Tn a c m b d t u t' u')
include h
theorem sgn_sm (p : Int) : Sm 100 (sgn p) := by unfold sgn Sm; split <;> decide
theorem g9 : Ga (aCons (eOp2 oMul (eVar 8) (eOp2 oSub (eOp2 oMul (eVar 1) (eVar 5)) (eOp2 oMul (eVar 2) (eVar 4)))) (aCons (eIfx (tVal (eOp2 oGt (eVar 4) n0)) (eOp2 oSub (eVar 1) (eOp2 oMul (eVar 3) (eVar 4))) (eOp2 oSub (eOp2 oMul (eVar 3) (eVar 4)) (eVar 1))) aNil))
    (L4 w a c m b d t u t' u' (some (.int (sgn (b * d)))) none none none) [.int (sgn (b * d) * (a * d - c * b)), .int (sgn b * (a - m * b))] := by
  refine Ga.cons (g_mul (Gv.var rfl) (g_sub (pad h) (pcb h)) (sgn_sm h _) (z4 h.sa h.sd h.sc h.sb) (by decide)) (Ga.cons ?_ Ga.nil)
  unfold sgn
  by_cases p : b > 0
  · rw [if_pos p, Int.one_mul]
    exact Gv.ifxT ((Gt.bl (g_gt v4 Gv.k)).to (by simp [p])) (g_sub v1 (pmb h))
  · rw [if_neg p]
    have e : -1 * (a - m * b) = m * b - a := by omega
    rw [e]
    exact Gv.ifxF ((Gt.bl (g_gt v4 Gv.k)).to (by simp [p])) (g_sub (pmb h) v1)
def L5 (w : Nat) (a c m b d t u t' u' : Int) (x11 : Option LV) : Ls := L4 w a c m b d t u t' u' (some (.int (sgn (b * d)))) (some (.int (sgn (b * d) * (a * d - c * b)))) (some (.int (sgn b * (a - m * b)))) x11
abbrev mBel (e o : Ev) : Ev := eMethK (tbOf [(0, viaM M_Ratio_is_below [] [.p 0, .p 1])]) e (aCons o aNil) aNil
abbrev mMst (e o : Ev) : Ev := eMethK (tbOf [(0, viaM M_Ratio_is_at_most [] [.p 0, .p 1])]) e (aCons o aNil) aNil
theorem pos1 : 0 < u * u' := Int.mul_pos h.l.pos h.l'.pos
theorem cmp1 : (t * u' < t' * u ↔ sgn (b * d) * (a * d - c * b) < 0) ∧ (t * u' = t' * u ↔ sgn (b * d) * (a * d - c * b) = 0) ∧ (t * u' ≤ t' * u ↔ sgn (b * d) * (a * d - c * b) ≤ 0) := by
  have := sgn_ok (pos1 h) (bd0 h) (cmp_math h.l.eq h.l'.eq)
  generalize sgn (b * d) * (a * d - c * b) = g at *
  omega
theorem cmp2 : (t * 1 < m * u ↔ sgn b * (a - m * b) < 0) ∧ (t * 1 ≤ m * u ↔ sgn b * (a - m * b) ≤ 0) := by
  have e := cmp_math (t' := m) (u' := 1) (C := m) (D := 1) h.l.eq rfl
  rw [Int.mul_one b, Int.mul_one a] at e
  have := sgn_ok (show 0 < u * 1 by have := h.l.pos; omega) h.b0 e
  generalize sgn b * (a - m * b) = g at *
  omega
theorem g11 {x8 x9 x10 x11 : Option LV} : Gv (eLst (aCons (mBel (eVar 6) (eVar 7)) (aCons (mMst (eVar 6) (eVar 7)) (aCons (mBel (eVar 6) (eVar 3)) (aCons (mMst (eVar 6) (eVar 3)) aNil)))))
    (L4 w a c m b d t u t' u' x8 x9 x10 x11) (.lst [.bl (decide (t * u' < t' * u)), .bl (decide (t * u' ≤ t' * u)), .bl (decide (t * 1 < m * u)), .bl (decide (t * 1 ≤ m * u))]) :=
  Gv.lst (Ga.cons (Gv.meth v6 rfl (Ga.cons v7 Ga.nil) Ga.nil (Gk.via fun st => ⟨[], by rw [List.append_nil]; exact below_eq h.N' h.st h.su h.st' h.su' (by decide)⟩))
    (Ga.cons (Gv.meth v6 rfl (Ga.cons v7 Ga.nil) Ga.nil (Gk.via fun st => ⟨[], by rw [List.append_nil]; exact most_eq h.N' h.st h.su h.st' h.su' (by decide)⟩))
    (Ga.cons (Gv.meth v6 rfl (Ga.cons v3 Ga.nil) Ga.nil (Gk.via fun st => ⟨[], by rw [List.append_nil]; exact below_eq (Num.int m) h.st h.su h.sm s1 (by decide)⟩))
    (Ga.cons (Gv.meth v6 rfl (Ga.cons v3 Ga.nil) Ga.nil (Gk.via fun st => ⟨[], by rw [List.append_nil]; exact most_eq (Num.int m) h.st h.su h.sm s1 (by decide)⟩)) Ga.nil)))) (by simp)
def told4 (t u t' u' m : Int) : List Bool := [decide (t * u' < t' * u), decide (t * u' ≤ t' * u), decide (t * 1 < m * u), decide (t * 1 ≤ m * u)]
abbrev L6 (w : Nat) (a c m b d t u t' u' : Int) : Ls := L5 w a c m b d t u t' u' (some (.lst ((told4 t u t' u' m).map .bl)))
theorem k9 {x11 : Option LV} : Gv (eVar 9) (L5 w a c m b d t u t' u' x11) (.int (sgn (b * d) * (a * d - c * b))) := Gv.var rfl
theorem k10 {x11 : Option LV} : Gv (eVar 10) (L5 w a c m b d t u t' u' x11) (.int (sgn b * (a - m * b))) := Gv.var rfl
theorem c6 : Gt (tO (tVal (eOp2 oNe (eVar 11) (eLst (aCons (eOp2 oLt (eVar 9) n0) (aCons (eOp2 oLe (eVar 9) n0) (aCons (eOp2 oLt (eVar 10) n0) (aCons (eOp2 oLe (eVar 10) n0) aNil))))))) (tVal (eOp2 oNe (eComp (iSeq (eVar 11)) [12] (gN 12) soT (eVar 12)) (eLst aNil))))
    (L6 w a c m b d t u t' u') false := by
  refine Gt.or (Gt.bl (Gv.op2 (Gv.var rfl) (Gv.lst (Ga.cons (g_lt (k9 h) Gv.k) (Ga.cons (g_le (k9 h) Gv.k) (Ga.cons (g_lt (k10 h) Gv.k) (Ga.cons (g_le (k10 h) Gv.k) Ga.nil)))) (by simp)) fun st => ⟨[], ?_⟩)) (Gt.bl (Gv.op2 (v := .lst []) (w := .lst []) (fun st => ⟨[], ?_⟩) (Gv.lst Ga.nil (by simp)) fun st => ⟨[], by rw [List.append_nil]; rfl⟩))
  · have a1 := cmp1 h; have a2 := cmp2 h
    rw [List.append_nil]
    have e : (told4 t u t' u' m).map LV.bl = [.bl (decide (sgn (b * d) * (a * d - c * b) < 0)), .bl (decide (sgn (b * d) * (a * d - c * b) ≤ 0)), .bl (decide (sgn b * (a - m * b) < 0)), .bl (decide (sgn b * (a - m * b) ≤ 0))] := by
      simp only [told4, List.map_cons, List.map_nil, a1.1, a1.2.2, a2.1, a2.2]
    rw [e]
    exact ne_l4 _ _ _ _ st
  · have so := so_ok (st := st) (ls := L6 w a c m b d t u t' u') rfl (told4 t u t' u' m)
    have sq : iSeq (eVar 11) (L6 w a c m b d t u t' u') st = some (.ok ((told4 t u t' u' m).map .bl), st) := rfl
    unfold eComp
    rw [bnd_ok sq, if_pos (by simp [told4]), so, List.append_nil]
theorem eq_iff : (decide (t = t') && decide (u = u')) = decide (sgn (b * d) * (a * d - c * b) = 0) := by
  have a1 := (cmp1 h).2.1
  by_cases g : sgn (b * d) * (a * d - c * b) = 0
  · have e := a1.mpr g
    have l2 : Low t' u' t u := ⟨h.l'.pos, h.l'.cop, e.symm⟩
    obtain ⟨rfl, rfl⟩ := (low_self h.l).uniq (by have := h.l.pos; omega) l2
    simp [g]
  · have ne : ¬ (t = t' ∧ u = u') := fun z => g (a1.mp (by rw [z.1, z.2]))
    rw [← Bool.decide_and]
    simp only [g, ne, decide_false]
theorem c7 {x11 : Option LV} : Gt (tO (tVal (eOp2 oNe (eOp2 (oOwnL okR fEq) (eVar 6) (eVar 7)) (eOp2 oEq (eVar 9) n0))) (tO (tVal (eOp2 oNe (eOp2 (oOwnNe okR (fun c => ([(0, M_Ratio_eq)] : List (Nat × Mv)).lookup c)) (eVar 6) (eVar 7)) (eOp2 oNe (eVar 9) n0))) (tO (tVal (eOp2 (oOwnL okR fEq) (eVar 6) (eVar 3))) (tVal (eOp2 (oOwnL okR fEq) (eVar 6) (eTup (aCons (eOp1 (fieldL 0) (eVar 6)) (aCons (eOp1 (fieldL 1) (eVar 6)) aNil))))))))
    (L5 w a c m b d t u t' u' x11) false := by
  have e := eq_iff h
  have o6 : Gv (eVar 6) (L5 w a c m b d t u t' u' x11) (rat t u) := Gv.var rfl
  have o7 : Gv (eVar 7) (L5 w a c m b d t u t' u' x11) (rat t' u') := Gv.var rfl
  have o3 : Gv (eVar 3) (L5 w a c m b d t u t' u' x11) (.int m) := Gv.var rfl
  have f6 : Gv (eOp1 (fieldL 0) (eVar 6)) (L5 w a c m b d t u t' u' x11) (.int t) := o6.op1 fun st => ⟨[], by rw [List.append_nil]; rfl⟩
  have f7 : Gv (eOp1 (fieldL 1) (eVar 6)) (L5 w a c m b d t u t' u' x11) (.int u) := o6.op1 fun st => ⟨[], by rw [List.append_nil]; rfl⟩
  refine Gt.or (Gt.bl (Gv.op2 (Gv.op2 o6 o7 (r := .bl (decide (t = t') && decide (u = u'))) fun st => ⟨[], ?_⟩) (g_eq (k9 h) Gv.k) fun st => ⟨[], ?_⟩))
    (Gt.or (Gt.bl (Gv.op2 (Gv.op2 o6 o7 (r := .bl (!(decide (t = t') && decide (u = u')))) fun st => ⟨[], ?_⟩) (g_ne (k9 h) Gv.k) fun st => ⟨[], ?_⟩))
    (Gt.or (Gt.bl (Gv.op2 o6 o3 fun st => ⟨[], ?_⟩)) (Gt.bl (Gv.op2 o6 (Gv.tup (Ga.cons f6 (Ga.cons f7 Ga.nil)) (by simp)) fun st => ⟨[], ?_⟩))))
  · rw [List.append_nil]; exact eq_rat
  · rw [List.append_nil, e]; exact ne_bl _ _
  · rw [List.append_nil]
    show bnd (M_Ratio_eq [rat t u, rat t' u'] st) _ = _
    rw [bnd_ok eq_rat]
  · rw [List.append_nil, e]
    rw [← decide_not]
    exact ne_bl _ _
  · rw [List.append_nil, ownL_int]; exact eq_int
  · rw [List.append_nil, ownL_tup]; exact eq_tup
/-- the sum of both -/
theorem sum_ok (st : Sto) : Mkd (fSum (orO (oOwnL okR fAdd) (oOwnR okB (tbOf [(0, viaM M_Ratio_radd [] [.p 0, .p 1])]))) [.lst [rat t u, rat t' u']] st) st 500 (a * d + c * b) (b * d) := by
  obtain ⟨t1, b1, es, e1, l1, y1, y2⟩ := add_ok (st := st) h.l h.b0 (Num.int 0) h.st h.su (show Sm 100 0 by unfold Sm; decide) s1 (by decide)
  have l1 : Low t1 b1 a b := by
    have l1 := l1
    rw [Int.mul_one, Int.mul_one, Int.zero_mul, Int.add_zero] at l1
    exact l1
  obtain ⟨t2, b2, es2, e2, l2, x1, x2⟩ := add_ok (st := st ++ es) l1 h.b0 h.N' y1 y2 (h.st'.mono (by decide)) (h.su'.mono (by decide)) (show 100 + 100 + 1 < 2000 by decide)
  refine ⟨t2, b2, es ++ es2, ?_, l2, x1.mono (by decide), x2.mono (by decide)⟩
  have r1 : orO (oOwnL okR fAdd) (oOwnR okB (tbOf [(0, viaM M_Ratio_radd [] [.p 0, .p 1])])) (.int 0) (rat t u) st = some (.ok (rat t1 b1), st ++ es) := by
    have n1 : oOwnL okR fAdd (.int 0) (rat t u) st = none := rfl
    unfold orO
    rw [n1, ownR_int]
    show M_Ratio_radd [rat t u, .int 0] st = _
    rw [radd_eq]; exact e1
  have r2 : orO (oOwnL okR fAdd) (oOwnR okB (tbOf [(0, viaM M_Ratio_radd [] [.p 0, .p 1])])) (rat t1 b1) (rat t' u') (st ++ es) = some (.ok (rat t2 b2), st ++ (es ++ es2)) := by
    have n1 : oOwnL okR fAdd (rat t1 b1) (rat t' u') (st ++ es) = some (.ok (rat t2 b2), st ++ (es ++ es2)) := by
      rw [ownL_rat]
      show M_Ratio_add [rat t1 b1, rat t' u'] (st ++ es) = _
      rw [e2, List.append_assoc]
    unfold orO
    rw [n1]
  generalize orO (oOwnL okR fAdd) (oOwnR okB (tbOf [(0, viaM M_Ratio_radd [] [.p 0, .p 1])])) = F at *
  show sumL F (.int 0) [rat t u, rat t' u'] st = _
  unfold rat at *
  simp only [sumL, r1, r2]
end
end K01

set_option Elab.async false
set_option linter.all false
set_option maxRecDepth 100000
set_option maxHeartbeats 4000000
/-! K01S: the plain law of k01: a turn, the whole. -/
namespace K01
open PySem EL
theorem g_nz {ls : Ls} {i : Nat} {b k : Int} {K : Ev} (h : ls[i]? = some (some (.int b))) (hK : Gv K ls (.int k)) : Gv (eIfx (tVal (eOp2 oNe (eVar i) n0)) (eVar i) K) ls (.int (if b = 0 then k else b)) := by
  by_cases z : b = 0
  · rw [if_pos z]
    exact Gv.ifxF ((Gt.bl (g_ne (Gv.var h) Gv.k)).to (by simp [z])) hK
  · rw [if_neg z]
    exact Gv.ifxT ((Gt.bl (g_ne (Gv.var h) Gv.k)).to (by simp [z])) (Gv.var h)
theorem right_ok {st : Sto} {w : Nat} {ns : List Int} {T : Nat} (W : Well st w ns T) (hT : T < 5000) : ∃ st', M_law_right [.ob w] st = some (.ok (.bl true), st') ∧ Well st' w ns (T + 12) := by
  obtain ⟨a, s1, e1, za, W1⟩ := num_e (ls := [some (.ob w), none, none, none, none, none, none, none, none, none, none, none, none, none]) rfl W (by omega)
  obtain ⟨c, s2, e2, zc, W2⟩ := num_e (ls := [some (.ob w), none, none, none, none, none, none, none, none, none, none, none, none, none]) rfl W1 (by omega)
  obtain ⟨m, s3, e3, zm, W3⟩ := num_e (ls := [some (.ob w), none, none, none, none, none, none, none, none, none, none, none, none, none]) rfl W2 (by omega)
  have r1 : sPar3 1 2 3 (aCons eNum (aCons eNum (aCons eNum aNil))) [some (.ob w), none, none, none, none, none, none, none, none, none, none, none, none, none] st = some (.nx [some (.ob w), some (.int a), some (.int c), some (.int m), none, none, none, none, none, none, none, none, none, none], s3) := by
    unfold sPar3 aCons aNil
    simp only [bnd, e1, e2, e3, stE]
    rfl
  obtain ⟨b, s4, e4, zb, W4⟩ := num_e (ls := [some (.ob w), some (.int a), some (.int c), some (.int m), none, none, none, none, none, none, none, none, none, none]) rfl W3 (by omega)
  obtain ⟨d, s5, e5, zd, W5⟩ := num_e (ls := [some (.ob w), some (.int a), some (.int c), some (.int m), none, none, none, none, none, none, none, none, none, none]) rfl W4 (by omega)
  have r2 : sPar 4 5 (aCons eNum (aCons eNum aNil)) [some (.ob w), some (.int a), some (.int c), some (.int m), none, none, none, none, none, none, none, none, none, none] s3 = some (.nx [some (.ob w), some (.int a), some (.int c), some (.int m), some (.int b), some (.int d), none, none, none, none, none, none, none, none], s5) := by
    unfold sPar aCons aNil
    simp only [bnd, e4, e5, stE]
    rfl
  obtain ⟨x3, r3⟩ := sPar_by (i := 4) (j := 5) (ls := [some (.ob w), some (.int a), some (.int c), some (.int m), some (.int b), some (.int d), none, none, none, none, none, none, none, none]) (Ga.cons (g_nz (i := 4) (b := b) rfl (Gv.k (v := .int 1))) (Ga.cons (g_nz (i := 5) (b := d) rfl (g_neg (Gv.k (v := .int 1)))) Ga.nil)) s5
  have b0 : (if b = 0 then 1 else b) ≠ 0 := by split <;> omega
  have d0 : (if d = 0 then -1 else d) ≠ 0 := by split <;> omega
  have zb : Sm 100 (if b = 0 then 1 else b) := by
    split
    · exact K01.s1
    · exact zb
  have zd : Sm 100 (if d = 0 then -1 else d) := by
    split
    · exact K01.s1.neg
    · exact zd
  generalize (if b = 0 then 1 else b) = b at *
  generalize (if d = 0 then -1 else d) = d at *
  have r3 : sPar 4 5 _ _ s5 = some (.nx [some (.ob w), some (.int a), some (.int c), some (.int m), some (.int b), some (.int d), none, none, none, none, none, none, none, none], s5 ++ x3) := r3
  have k1 : Gv (eCallK (viaI 0 M_Ratio_init [.int 1] [.p 0, .p 1, .p 2]) (aCons (eVar 1) (aCons (eVar 4) aNil)) aNil) [some (.ob w), some (.int a), some (.int c), some (.int m), some (.int b), some (.int d), none, none, none, none, none, none, none, none] (rat (mt a b) (mb a b)) :=
    Gv.callK (Ga.cons (Gv.var rfl) (Ga.cons (Gv.var rfl) Ga.nil)) Ga.nil fun st => ⟨[.gone], mk_eq b0 (zb.mono (by decide)) st⟩
  have k2 : Gv (eCallK (viaI 0 M_Ratio_init [.int 1] [.p 0, .k 1, .k 0]) aNil (aCons (eVar 5) (aCons (eVar 2) aNil))) [some (.ob w), some (.int a), some (.int c), some (.int m), some (.int b), some (.int d), none, none, none, none, none, none, none, none] (rat (mt c d) (mb c d)) :=
    Gv.callK Ga.nil (Ga.cons (Gv.var rfl) (Ga.cons (Gv.var rfl) Ga.nil)) fun st => ⟨[.gone], mk_eq d0 (zd.mono (by decide)) st⟩
  obtain ⟨x4, r4⟩ := sPar_by (i := 6) (j := 7) (Ga.cons k1 (Ga.cons k2 Ga.nil)) (s5 ++ x3)
  obtain ⟨l1, y1, y2⟩ := sg_low (t := a) b0
  obtain ⟨l2, y3, y4⟩ := sg_low (t := c) d0
  have h : Tn a c m b d (mt a b) (mb a b) (mt c d) (mb c d) := ⟨l1, l2, b0, d0, za, zc, zm, zb, zd, za.le y1, zb.le y2, zc.le y3, zd.le y4⟩
  generalize mt a b = t at *
  generalize mb a b = u at *
  generalize mt c d = t' at *
  generalize mb c d = u' at *
  have r4 : sPar 6 7 _ _ (s5 ++ x3) = some (.nx (L4 w a c m b d t u t' u' none none none none), s5 ++ x3 ++ x4) := r4
  have W6 : Well (s5 ++ x3 ++ x4) w ns (T + 10) := (W5.app x3).app x4
  generalize s5 ++ x3 ++ x4 = s6 at *
  obtain ⟨y1, E1⟩ := sIf_by (R := sRet (eK (.bl false))) (c1 (w := w) (x8 := none) (x9 := none) (x10 := none) (x11 := none) h) s6
  obtain ⟨y2, E2⟩ := sIf_by (R := sRet (eK (.bl false))) (c2 (w := w) (x8 := none) (x9 := none) (x10 := none) (x11 := none) h) (s6 ++ y1)
  obtain ⟨y3, E3⟩ := sIf_by (R := sRet (eK (.bl false))) (c3 (w := w) (x8 := none) (x9 := none) (x10 := none) (x11 := none) h) (s6 ++ y1 ++ y2)
  obtain ⟨y4, E4⟩ := sIf_by (R := sRet (eK (.bl false))) (c4 (w := w) (x8 := none) (x9 := none) (x10 := none) (x11 := none) h) (s6 ++ y1 ++ y2 ++ y3)
  obtain ⟨y5, E5⟩ := sIf_by (R := sRet (eK (.bl false))) (c5 (w := w) (x8 := none) (x9 := none) (x10 := none) (x11 := none) h) (s6 ++ y1 ++ y2 ++ y3 ++ y4)
  have W7 : Well (s6 ++ y1 ++ y2 ++ y3 ++ y4 ++ y5) w ns (T + 10) := ((((W6.app _).app _).app _).app _).app _
  generalize s6 ++ y1 ++ y2 ++ y3 ++ y4 ++ y5 = s7 at *
  obtain ⟨y6, E6⟩ := sSet_by (i := 8) (g8 (w := w) (x8 := none) (x9 := none) (x10 := none) (x11 := none) h) s7
  have E6 : sSet 8 _ _ s7 = some (.nx (L4 w a c m b d t u t' u' (some (.int (sgn (b * d)))) none none none), s7 ++ y6) := E6
  obtain ⟨y7, E7⟩ := sPar_by (i := 9) (j := 10) (g9 (w := w) h) (s7 ++ y6)
  have E7 : sPar 9 10 _ _ (s7 ++ y6) = some (.nx (L5 w a c m b d t u t' u' none), s7 ++ y6 ++ y7) := E7
  obtain ⟨y8, E8⟩ := sSet_by (i := 11) (g11 (w := w) (x8 := (some (.int (sgn (b * d))))) (x9 := (some (.int (sgn (b * d) * (a * d - c * b))))) (x10 := (some (.int (sgn b * (a - m * b))))) (x11 := none) h) (s7 ++ y6 ++ y7)
  have E8 : sSet 11 _ (L5 w a c m b d t u t' u' none) (s7 ++ y6 ++ y7) = some (.nx (L6 w a c m b d t u t' u'), s7 ++ y6 ++ y7 ++ y8) := E8
  obtain ⟨y9, E9⟩ := sIf_by (R := sRet (eK (.bl false))) (c6 (w := w) h) (s7 ++ y6 ++ y7 ++ y8)
  obtain ⟨y10, E10⟩ := sIf_by (R := sRet (eK (.bl false))) (c7 (w := w) (x11 := some (.lst ((told4 t u t' u' m).map .bl))) h) (s7 ++ y6 ++ y7 ++ y8 ++ y9)
  have W8 : Well (s7 ++ y6 ++ y7 ++ y8 ++ y9 ++ y10) w ns (T + 10) := ((((W7.app _).app _).app _).app _).app _
  generalize s7 ++ y6 ++ y7 ++ y8 ++ y9 ++ y10 = s8 at *
  obtain ⟨t3, u3, es, e6, l3, q1, q2⟩ := sum_ok h s8
  have E11 : sSet 13 (eCallB (fSum (orO (oOwnL okR fAdd) (oOwnR okB (tbOf [(0, viaM M_Ratio_radd [] [.p 0, .p 1])])))) (aCons (eLst (aCons (eVar 6) (aCons (eVar 7) aNil))) aNil)) (L6 w a c m b d t u t' u') s8 = some (.nx ((L6 w a c m b d t u t' u').set 13 (some (rat t3 u3))), s8 ++ es) := by
    have a0 : (aCons (eLst (aCons (eVar 6) (aCons (eVar 7) aNil))) aNil) (L6 w a c m b d t u t' u') s8 = some (.ok [.lst [rat t u, rat t' u']], s8) := rfl
    have a1 : eCallB (fSum (orO (oOwnL okR fAdd) (oOwnR okB (tbOf [(0, viaM M_Ratio_radd [] [.p 0, .p 1])])))) (aCons (eLst (aCons (eVar 6) (aCons (eVar 7) aNil))) aNil) (L6 w a c m b d t u t' u') s8 = some (.ok (rat t3 u3), s8 ++ es) := by
      unfold eCallB
      rw [bnd_ok a0]; exact e6
    unfold sSet
    rw [stE_ok a1]
  have W9 := W8.app es
  generalize s8 ++ es = s9 at *
  obtain ⟨y11, E12⟩ := is_g (ls := (L6 w a c m b d t u t' u').set 13 (some (rat t3 u3))) (e := eVar 13) (n := 500) (x := a * d + c * b) (y := b * d) (X := eOp2 oAdd (eOp2 oMul (eVar 1) (eVar 5)) (eOp2 oMul (eVar 2) (eVar 4))) (Y := eOp2 oMul (eVar 4) (eVar 5)) (fun st => ⟨t3, u3, [], by rw [ev_var (v := rat t3 u3) rfl, List.append_nil], l3, q1, q2⟩)
    (g_add (g_mul (Gv.var rfl) (Gv.var rfl) h.sa h.sd (by decide)) (g_mul (Gv.var rfl) (Gv.var rfl) h.sc h.sb (by decide))) (g_mul (Gv.var rfl) (Gv.var rfl) h.sb h.sd (by decide)) (bd0 h) (z3 h.sa h.sd h.sc h.sb) (z2 h.sb h.sd) s9
  have W10 := W9.app y11
  generalize s9 ++ y11 = s10 at *
  have E13 : eOp2 (oOwnL okR fEq) (eCallK (viaI 0 M_Ratio_init [.int 1] [.p 0, .p 1, .p 2]) (aCons (eOp1 (fieldL 0) (eVar 6)) (aCons (eOp1 (fieldL 1) (eVar 6)) aNil)) aNil) (eVar 6) ((L6 w a c m b d t u t' u').set 13 (some (rat t3 u3))) s10 = some (.ok (.bl true), s10 ++ [.gone]) := by
    have u0 : u ≠ 0 := by have := h.l.pos; omega
    obtain ⟨l4, _, _⟩ := sg_low (t := t) u0
    obtain ⟨q1, q2⟩ := l4.uniq u0 (low_self h.l)
    have a0 : eCallK (viaI 0 M_Ratio_init [.int 1] [.p 0, .p 1, .p 2]) (aCons (eOp1 (fieldL 0) (eVar 6)) (aCons (eOp1 (fieldL 1) (eVar 6)) aNil)) aNil ((L6 w a c m b d t u t' u').set 13 (some (rat t3 u3))) s10 = some (.ok (rat t u), s10 ++ [.gone]) := by
      show mk t u s10 = _
      rw [mk_eq u0 (h.su.mono (by decide)), show mt t u = t from q1, show mb t u = u from q2]
    unfold eOp2
    rw [bnd_ok a0, bnd_ok (ev_var (v := rat t u) rfl)]
    show M_Ratio_eq [rat t u, rat t u] _ = _
    rw [eq_rat]
    simp
  obtain ⟨s11, E14, W11⟩ := refused_ok (W10.app [.gone]) (by omega) h.st h.su (by decide)
  refine ⟨s11, ?_, W11⟩
  rw [M_law_right, runR]
  unfold b_law_right
  show toR (sSeq _ _ [some (.ob w), none, none, none, none, none, none, none, none, none, none, none, none, none] st) = _
  rw [sSeq_nx r1, sSeq_nx r2, sSeq_nx r3, sSeq_nx r4, sSeq_nx E1, sSeq_nx E2, sSeq_nx E3, sSeq_nx E4, sSeq_nx E5, sSeq_nx E6, sSeq_nx E7, sSeq_nx E8, sSeq_nx E9, sSeq_nx E10, sSeq_nx E11, toR_ret, ean_t E12, ean_t E13]
  exact E14
theorem loop_ok {ns : List Int} {ls : Ls} (hl : ls[1]? = some (some (.ob 0))) (h3 : ls.length = 3) : ∀ (items : List LV) (st : Sto) (T : Nat), Well st 0 ns T → T + 12 * items.length < 5000 →
    ∃ st', compL [2] (gN 2) (tNt (tVal (eCallK (viaM M_law_right [] [.p 0]) (aCons (eVar 1) aNil) aNil))) (eVar 2) items ls st = some ([], st')
  | [], st, T, W, hT => ⟨st, rfl⟩
  | it :: items, st, T, W, hT => by
    simp only [List.length_cons] at hT
    obtain ⟨s1, e1, W1⟩ := right_ok W (by omega)
    obtain ⟨s2, e2⟩ := loop_ok hl h3 items s1 _ W1 (by omega)
    refine ⟨s2, ?_⟩
    have g : gN 2 it (wipeL ls [2]) = some ((wipeL ls [2]).set 2 (some it)) := rfl
    have v : ((wipeL ls [2]).set 2 (some it))[1]? = some (some (.ob 0)) := by
      simp only [wipeL, List.set_set]
      rw [List.getElem?_set_ne (by decide)]; exact hl
    have t : tNt (tVal (eCallK (viaM M_law_right [] [.p 0]) (aCons (eVar 1) aNil) aNil)) ((wipeL ls [2]).set 2 (some it)) st = some (.ok false, s1) := by
      unfold tNt tVal eCallK aCons aNil
      simp only [bnd, ev_var v, viaM, pick, pick1, List.getElem?_cons_zero, e1, tru, truL, Bool.not_true]
    simp only [compL, g, t, e2]
theorem ints_ok : ∀ (ns : List Int) (ls : Ls) (st : Sto), ls.length = 2 → compL [1] (gN 1) tTrue (eCallB fInt (aCons (eVar 1) aNil)) (ns.map .int) ls st = some (ns.map .int, st)
  | [], _, _, _ => rfl
  | n :: ns, ls, st, h => by
    have ih := ints_ok ns ls st h
    have g : gN 1 (.int n) (wipeL ls [1]) = some ((wipeL ls [1]).set 1 (some (.int n))) := rfl
    have v : ((wipeL ls [1]).set 1 (some (.int n)))[1]? = some (some (.int n)) := by
      rw [List.getElem?_set_self (by simp [wipeL, h])]
    have e : eCallB fInt (aCons (eVar 1) aNil) ((wipeL ls [1]).set 1 (some (.int n))) st = some (.ok (.int n), st) := by
      unfold eCallB aCons aNil
      simp only [bnd, ev_var v, fInt]
    simp only [List.map_cons, compL, g, tTrue, e, ih]
theorem LT (ns : List Int) (h : ns.length ≤ 63) (hb : ∀ z ∈ ns, PySem.Builtin.Int.intBits z ≤ 1048576) : ∃ st, K01.M_law [.lst (ns.map .int)] [] = some (.ok (.bl true), st) := by
  have w0 : M_law_well [.lst (ns.map .int)] [] = some (.ok (.ob 0), [.lst [.lst (ns.map .int), .int 0, .int 0]]) := by
    have sl : eSl slL (eVar 0) none (some (eK (.int 63))) [some (.lst (ns.map .int)), none] [] = some (.ok (.lst (cutL (ns.map .int) none (some 63))), []) := rfl
    have ct : cutL (ns.map LV.int) none (some 63) = ns.map .int := by
      unfold cutL
      have e63 : HT.sIx (ns.map LV.int).length (ns.map LV.int).length (some 63) = min 63 (ns.map LV.int).length := HT.sIx_nat _ _ 63
      rw [HT.sIx_none, e63, List.drop_zero]
      exact List.take_of_length_le (by simp; omega)
    rw [ct] at sl
    have sq : iSeq (eSl slL (eVar 0) none (some (eK (.int 63)))) [some (.lst (ns.map .int)), none] [] = some (.ok (ns.map .int), []) := by
      unfold iSeq; rw [bnd_ok sl]
    have cm : eComp (iSeq (eSl slL (eVar 0) none (some (eK (.int 63))))) [1] (gN 1) tTrue (eCallB fInt (aCons (eVar 1) aNil)) [some (.lst (ns.map .int)), none] [] = some (.ok (.lst (ns.map .int)), []) := by
      unfold eComp
      rw [bnd_ok sq, if_pos (by simp; omega), ints_ok _ _ _ rfl]
    rw [M_law_well, runR]
    unfold b_law_well
    rw [toR_ret]
    show eLstM _ [some (.lst (ns.map .int)), none] [] = _
    have a0 : aCons (eComp (iSeq (eSl slL (eVar 0) none (some (eK (.int 63))))) [1] (gN 1) tTrue (eCallB fInt (aCons (eVar 1) aNil))) (aCons (eK (.int 0)) (aCons (eK (.int 0)) aNil)) [some (.lst (ns.map .int)), none] [] = some (.ok [.lst (ns.map .int), .int 0, .int 0], []) := by
      show bnd _ _ = _
      rw [bnd_ok cm]
      rfl
    unfold eLstM
    rw [bnd_ok a0]
    rfl
  have W : Well [.lst [.lst (ns.map .int), .int 0, .int 0]] 0 ns 0 := ⟨0, 0, rfl, by omega, by omega, by omega⟩
  obtain ⟨s2, e2⟩ := loop_ok (ls := [some (.lst (ns.map .int)), some (.ob 0), none]) rfl rfl ((List.range 6).map fun (k : Nat) => LV.int (0 + (k : Int))) _ 0 W (by simp)
  refine ⟨s2, ?_⟩
  have r0 : sSet 1 (eCallK (viaM M_law_well [] [.p 0]) (aCons (eVar 0) aNil) aNil) [some (.lst (ns.map .int)), none, none] [] = some (.nx [some (.lst (ns.map .int)), some (.ob 0), none], [.lst [.lst (ns.map .int), .int 0, .int 0]]) := by
    have a0 : eCallK (viaM M_law_well [] [.p 0]) (aCons (eVar 0) aNil) aNil [some (.lst (ns.map .int)), none, none] [] = some (.ok (.ob 0), [.lst [.lst (ns.map .int), .int 0, .int 0]]) := w0
    unfold sSet
    rw [stE_ok a0]
    rfl
  have r1 : eComp (iRange (aCons (eK (.int 6)) aNil)) [2] (gN 2) (tNt (tVal (eCallK (viaM M_law_right [] [.p 0]) (aCons (eVar 1) aNil) aNil))) (eVar 2) [some (.lst (ns.map .int)), some (.ob 0), none] [.lst [.lst (ns.map .int), .int 0, .int 0]] = some (.ok (.lst []), s2) := by
    have q : iRange (aCons (eK (.int 6)) aNil) [some (.lst (ns.map .int)), some (.ob 0), none] [.lst [.lst (ns.map .int), .int 0, .int 0]] = some (.ok ((List.range 6).map fun (k : Nat) => LV.int (0 + (k : Int))), [.lst [.lst (ns.map .int), .int 0, .int 0]]) := rfl
    unfold eComp
    rw [bnd_ok q, if_pos (by simp), e2]
  rw [M_law, runR]
  unfold b_law
  show toR (sSeq _ _ [some (.lst (ns.map .int)), none, none] []) = _
  rw [sSeq_nx r0, toR_ret]
  unfold eOp2
  rw [bnd_ok r1]
  rfl
end K01

set_option Elab.async false
set_option linter.all false
set_option maxRecDepth 100000
open PySem PySem.W PyProof.Rows in
set_option maxRecDepth 100000 in
set_option maxHeartbeats 0 in
theorem PySem.Challenge.cw_longshares_k01_ratios_reckoned_holds : PySem.Challenge.rw_longshares_k01_ratios_reckoned.Holds := by
  w_on; o_law; k_head; (case hw => w_witness2)
  k_fill
  refine LamX.walk_ofTs (l := PySem.Challenge.rw_longshares_k01_ratios_reckoned) (n := 63) (k := 13) (x := "script") (CX := fun w => L2.CX (PySem.Challenge.rw_longshares_k01_ratios_reckoned).prog w) rfl (by decide) rfl ⟨rfl, by decide, by decide⟩ (fun w h Y => PySem.W.km_in_of Y) ?F (fun w H s e s' z => by obtain ⟨_, _, _, _, _, _, _, _, _, _, _, _, z⟩ := z; exact z)
  case F =>
    intro w mg fa h Y KX G hmg
    exact K01.law_at K01.LT KX G hmg (show He.obsD K01.faL K01.fnL _ = He.valD K01.fnL by kernel_rfl) (by kernel_rfl) (PySem.W.km_tabs_of Y _ (List.mem_singleton.mpr rfl)) (by kernel_rfl) (by kernel_rfl)
