import PyProof.Rows.All
import Wide.All
import OpenK.AllK
import Wide.FinOn
import HandS.ForMost
import HandS.IsInst
import HandS.Flow
import HandS.Exc
import HandS.TryOnly
import HandS.ExcOwn
import HandS.WordsExc
import HandS.TupAny
import HandS.Style
import HandS.Deep
import HandS.More
import HandS.HeadHook3
import KE.GoesEnum
import KE.GoesZip
import KE.GoesMore
import HandS.Zip
import HandS.Iter
import PyProof.EnumMake
import HandS.Wide
import PyProof.Rows.StrMeet
import HandS.SetTxt0
import HandS.SetFor
import HandS.Strs
import HandS.Rev
import HandS.RaiseMore
import KE.KDictZip
import PyProof.ListNew
import HandS.ExcValue
import HandS.Small
import HandS.ExcIs
import KE.KExcIs
import HandS.HotCalls
import HandS.ExcInit
import HandS.ExcField
import HandS.ClsMeth
import PySem.Challenge.RW_gapwright_k18_errors_as_told
set_option Elab.async false
set_option linter.all false
set_option maxRecDepth 100000
namespace G
open PySem PySem.Spec PyProof.Rows L2

/-! data, worlds -/
inductive D where
  | non | bl (b : Bool) | int (i : Int) | str (x : Str) | tup (xs : List D) | lst (xs : List D)
  | dct (ks : List Key) (vs : List D) | obj (C : Addr) (ns : List Str) (vs : List D) | exc (c : Value) (ns : List Str) (vs : List D) | oth (v : V)
  deriving Inhabited

structure Wd where
  H : Hp
  F : Addr → Prop

def KLst (K : PySem.W.Frag) (a : Addr) (xs : List V) : Prop :=
  ∃ o its n, List.lookup a K = some o ∧ o.cls = Value.type "list" ∧ o.dict = none ∧ o.data = Data.seq its n ∧ its.size ≤ sizeLine ∧ Vals xs its.toList

/-- an exception that was caught: its class, its dict -/
def xO (p : Addr) (c : Value) (od : Option Addr) : HO := .ext fun h => ∃ (oe : Obj) (vs : Array Value), h.get? p = some oe ∧ oe.cls = c ∧ oe.dict = od ∧ oe.data = .fields vs

mutual
inductive Rep (K : PySem.W.Frag) (W : Wd) : V → D → Prop
  | non : Rep K W .non .non
  | bl (b : Bool) : Rep K W (.bl b) (.bl b)
  | int (i : Int) : Rep K W (.int i) (.int i)
  | str (x : Str) : Rep K W (.str x) (.str x)
  | tup {p : Addr} {vs : List V} {ds : List D} : SqT K W.H p vs → Reps K W vs ds → Rep K W (.ref p) (.tup ds)
  | lst {p : Addr} {vs : List V} {ds : List D} : W.F p → Rd W.H p (.lst vs) → Reps K W vs ds → Rep K W (.ref p) (.lst ds)
  | lstK {p : Addr} {vs : List V} {ds : List D} : KLst K p vs → Reps K W vs ds → Rep K W (.ref p) (.lst ds)
  | dct {p : Addr} {kvs : List (Key × V)} {ds : List D} : W.F p → W.H p = some (.dK kvs) → Reps K W (kvs.map (·.2)) ds → Rep K W (.ref p) (.dct (kvs.map (·.1)) ds)
  | obj {p C dx : Addr} {fs : List (Str × V)} {ds : List D} : W.F p → W.H p = some (.ins C dx fs) → Reps K W (fs.map (·.2)) ds → Rep K W (.ref p) (.obj C (fs.map (·.1)) ds)
  | exc0 {p : Addr} {c : Value} : W.F p → W.H p = some (xO p c none) → Rep K W (.ref p) (.exc c [] [])
  | exc {p dx : Addr} {c : Value} {fs : List (Str × V)} {ds : List D} : W.F p → W.H p = some (xO p c (some dx)) → W.F dx → W.H dx = some (.xd fs) → Reps K W (fs.map (·.2)) ds → Rep K W (.ref p) (.exc c (fs.map (·.1)) ds)
  | oth (v : V) : Rep K W v (.oth v)
inductive Reps (K : PySem.W.Frag) (W : Wd) : List V → List D → Prop
  | nil : Reps K W [] []
  | cons {v : V} {vs : List V} {d : D} {ds : List D} : Rep K W v d → Reps K W vs ds → Reps K W (v :: vs) (d :: ds)
end

structure Le (W W' : Wd) : Prop where
  tup : ∀ p xs, W.H p = some (.tup xs) → W'.H p = some (.tup xs)
  frz : ∀ p o u, W.H p = some (.frz o u) → W'.H p = some (.frz o u)
  frf : ∀ p, W.F p → W'.F p ∧ W'.H p = W.H p
theorem Le.refl (W : Wd) : Le W W := ⟨fun _ _ h => h, fun _ _ _ h => h, fun _ h => ⟨h, rfl⟩⟩
theorem Le.trans {W W1 W2 : Wd} (a : Le W W1) (b : Le W1 W2) : Le W W2 :=
  ⟨fun p xs h => b.tup p xs (a.tup p xs h), fun p o u h => b.frz p o u (a.frz p o u h), fun p h =>
    ⟨(b.frf p (a.frf p h).1).1, (b.frf p (a.frf p h).1).2.trans (a.frf p h).2⟩⟩
theorem Le.rdT {W W' : Wd} (e : Le W W') {p : Addr} {xs : List V} (h : Rd W.H p (.tup xs)) : Rd W'.H p (.tup xs) := by
  rcases h with h | ⟨o, h⟩
  · exact .inl (e.tup _ _ h)
  · exact .inr ⟨o, e.frz _ _ _ h⟩
theorem Le.sqT {K : PySem.W.Frag} {W W' : Wd} (e : Le W W') {p : Addr} {xs : List V} (h : SqT K W.H p xs) : SqT K W'.H p xs := by
  rcases h with h | h
  · exact .inl (e.rdT h)
  · exact .inr h
theorem Le.rdF {W W' : Wd} (e : Le W W') {p : Addr} {u : HO} (f : W.F p) (h : Rd W.H p u) : Rd W'.H p u := by
  have q := (e.frf p f).2
  rcases h with h | ⟨o, h⟩
  · exact .inl (q.trans h)
  · exact .inr ⟨o, q.trans h⟩

mutual
theorem Rep.mono {K : PySem.W.Frag} {W W' : Wd} (e : Le W W') : ∀ {v : V} {d : D}, Rep K W v d → Rep K W' v d
  | _, _, .non => .non
  | _, _, .bl b => .bl b
  | _, _, .int i => .int i
  | _, _, .str x => .str x
  | _, _, .tup h r => .tup (e.sqT h) (Reps.mono e r)
  | _, _, .lst f h r => .lst (e.frf _ f).1 (e.rdF f h) (Reps.mono e r)
  | _, _, .lstK h r => .lstK h (Reps.mono e r)
  | _, _, .dct f h r => .dct (e.frf _ f).1 ((e.frf _ f).2.trans h) (Reps.mono e r)
  | _, _, .obj f h r => .obj (e.frf _ f).1 ((e.frf _ f).2.trans h) (Reps.mono e r)
  | _, _, .exc0 f h => .exc0 (e.frf _ f).1 ((e.frf _ f).2.trans h)
  | _, _, .exc f h g i r => .exc (e.frf _ f).1 ((e.frf _ f).2.trans h) (e.frf _ g).1 ((e.frf _ g).2.trans i) (Reps.mono e r)
  | _, _, .oth v => .oth v
theorem Reps.mono {K : PySem.W.Frag} {W W' : Wd} (e : Le W W') : ∀ {vs : List V} {ds : List D}, Reps K W vs ds → Reps K W' vs ds
  | _, _, .nil => .nil
  | _, _, .cons h r => .cons (Rep.mono e h) (Reps.mono e r)
end
theorem Reps.len {K : PySem.W.Frag} {W : Wd} : ∀ {vs : List V} {ds : List D}, Reps K W vs ds → vs.length = ds.length
  | _, _, .nil => rfl
  | _, _, .cons _ r => congrArg (· + 1) (Reps.len r)
theorem Reps.get {K : PySem.W.Frag} {W : Wd} : ∀ {vs : List V} {ds : List D} {i : Nat} {d : D}, Reps K W vs ds → ds[i]? = some d → ∃ v, vs[i]? = some v ∧ Rep K W v d
  | _, _, _, _, .nil, e => by simp at e
  | _, _, 0, _, .cons h _, e => by simp at e; subst e; exact ⟨_, rfl, h⟩
  | _, _, i + 1, _, .cons _ r, e => by
    obtain ⟨v, h1, h2⟩ := Reps.get (i := i) r (by simpa using e)
    exact ⟨v, by simpa using h1, h2⟩
theorem Reps.get' {K : PySem.W.Frag} {W : Wd} : ∀ {vs : List V} {ds : List D} {i : Nat} {v : V}, Reps K W vs ds → vs[i]? = some v → ∃ d, ds[i]? = some d ∧ Rep K W v d
  | _, _, _, _, .nil, e => by simp at e
  | _, _, 0, _, .cons h _, e => by simp at e; subst e; exact ⟨_, rfl, h⟩
  | _, _, i + 1, _, .cons _ r, e => by
    obtain ⟨v, h1, h2⟩ := Reps.get' (i := i) r (by simpa using e)
    exact ⟨v, by simpa using h1, h2⟩
theorem Reps.app {K : PySem.W.Frag} {W : Wd} : ∀ {vs us : List V} {ds es : List D}, Reps K W vs ds → Reps K W us es → Reps K W (vs ++ us) (ds ++ es)
  | _, _, _, _, .nil, s => s
  | _, _, _, _, .cons h r, s => .cons h (Reps.app r s)
theorem Reps.take {K : PySem.W.Frag} {W : Wd} : ∀ {vs : List V} {ds : List D} (n : Nat), Reps K W vs ds → Reps K W (vs.take n) (ds.take n)
  | _, _, 0, _ => .nil
  | _, _, _ + 1, .nil => .nil
  | _, _, n + 1, .cons h r => .cons h (Reps.take n r)
theorem Reps.drop {K : PySem.W.Frag} {W : Wd} : ∀ {vs : List V} {ds : List D} (n : Nat), Reps K W vs ds → Reps K W (vs.drop n) (ds.drop n)
  | _, _, 0, r => r
  | _, _, _ + 1, .nil => .nil
  | _, _, n + 1, .cons _ r => Reps.drop n r
theorem Reps.set {K : PySem.W.Frag} {W : Wd} {v : V} {d : D} (h : Rep K W v d) : ∀ {vs : List V} {ds : List D} (i : Nat), Reps K W vs ds → Reps K W (vs.set i v) (ds.set i d)
  | _, _, _, .nil => .nil
  | _, _, 0, .cons _ r => .cons h r
  | _, _, i + 1, .cons q r => .cons q (Reps.set h i r)
theorem Reps.rev {K : PySem.W.Frag} {W : Wd} : ∀ {vs : List V} {ds : List D}, Reps K W vs ds → Reps K W vs.reverse ds.reverse
  | _, _, .nil => .nil
  | _, _, .cons h r => by
    rw [List.reverse_cons, List.reverse_cons]
    exact Reps.app (Reps.rev r) (.cons h .nil)
theorem Reps.dropLast {K : PySem.W.Frag} {W : Wd} {vs : List V} {ds : List D} (r : Reps K W vs ds) : Reps K W vs.dropLast ds.dropLast := by
  rw [List.dropLast_eq_take, List.dropLast_eq_take, r.len]
  exact r.take _
theorem Reps.ints {K : PySem.W.Frag} {W : Wd} : ∀ ns : List Int, Reps K W (ns.map V.int) (ns.map D.int)
  | [] => .nil
  | n :: r => .cons (.int n) (Reps.ints r)
theorem Reps.strs {K : PySem.W.Frag} {W : Wd} : ∀ ns : List Str, Reps K W (ns.map V.str) (ns.map D.str)
  | [] => .nil
  | n :: r => .cons (.str n) (Reps.strs r)

/-- what an object at a holds -/
def Cont (K : PySem.W.Frag) (W : Wd) (a : Addr) : D → Prop
  | .lst ds => ∃ vs, W.H a = some (.lst vs) ∧ Reps K W vs ds
  | .dct ks ds => ∃ kvs : List (Key × V), W.H a = some (.dK kvs) ∧ kvs.map (·.1) = ks ∧ Reps K W (kvs.map (·.2)) ds
  | .obj C ns ds => ∃ (dx : Addr) (fs : List (Str × V)), W.H a = some (.ins C dx fs) ∧ fs.map (·.1) = ns ∧ Reps K W (fs.map (·.2)) ds
  | _ => False
theorem Cont.mut {K : PySem.W.Frag} {W : Wd} {a : Addr} {d : D} (h : Cont K W a d) : ∃ o, W.H a = some o ∧ Mut (some o) := by
  cases d with
  | lst ds => obtain ⟨vs, e, _⟩ := h; exact ⟨_, e, trivial⟩
  | dct ks ds => obtain ⟨vs, e, _⟩ := h; exact ⟨_, e, trivial⟩
  | obj C ns ds => obtain ⟨dx, vs, e, _⟩ := h; exact ⟨_, e, trivial⟩
  | _ => exact h.elim
theorem Cont.mono {K : PySem.W.Frag} {W W' : Wd} {a : Addr} {d : D} (h : Cont K W a d) (l : Le W W') (e : W'.H a = W.H a) : Cont K W' a d := by
  cases d with
  | lst ds => obtain ⟨vs, q, r⟩ := h; exact ⟨vs, e.trans q, r.mono l⟩
  | dct ks ds => obtain ⟨vs, q, n, r⟩ := h; exact ⟨vs, e.trans q, n, r.mono l⟩
  | obj C ns ds => obtain ⟨dx, vs, q, n, r⟩ := h; exact ⟨dx, vs, e.trans q, n, r.mono l⟩
  | _ => exact h.elim
/-- frozen, it is data -/
theorem Cont.rep {K : PySem.W.Frag} {W : Wd} {a : Addr} {d : D} (h : Cont K W a d) (f : W.F a) : Rep K W (.ref a) d := by
  cases d with
  | lst ds => obtain ⟨vs, q, r⟩ := h; exact .lst f (.inl q) r
  | dct ks ds => obtain ⟨vs, q, n, r⟩ := h; subst n; exact .dct f q r
  | obj C ns ds => obtain ⟨dx, vs, q, n, r⟩ := h; subst n; exact .obj f q r
  | _ => exact h.elim

/-! frames -/
inductive Sl where
  | un | dat (d : D) | own (p : Bool) (d : D) | tp (ds : List D) (e : D)
abbrev Fs := List Sl

structure Cn where
  W0 : Wd
  pa : Nat → Option Addr
  kp : Addr → Option HO
  wl : Wd
/-- above the entry's world and one that is marked -/
def LeC (c : Cn) (W : Wd) : Prop := Le c.W0 W ∧ Le c.wl W
theorem LeC.trans {c : Cn} {W W' : Wd} (h : LeC c W) (l : Le W W') : LeC c W' := ⟨h.1.trans l, h.2.trans l⟩

def SlOk (K : PySem.W.Frag) (W : Wd) (a : Addr) (ov : Option (Option V)) : Sl → Prop
  | .un => True
  | .dat d => ∃ v, ov = some (some v) ∧ Rep K W v d
  | .own _ d => ov = some (some (.ref a)) ∧ ¬ W.F a ∧ Cont K W a d
  | .tp _ _ => False

structure FrA (K : PySem.W.Frag) (c : Cn) (σ : L2.St) (W : Wd) (fs : Fs) (ad : Nat → Addr) : Prop where
  len : σ.length = fs.length
  le : LeC c W
  slot : ∀ (i : Nat) (s : Sl), fs[i]? = some s → SlOk K W (ad i) σ[i]? s
  sep : ∀ (i j : Nat) (p q : Bool) (d e : D), fs[i]? = some (.own p d) → fs[j]? = some (.own q e) → ad i = ad j → i = j
  keep : ∀ b o, c.W0.H b = some o → (∀ i : Nat, c.pa i ≠ some b) → W.H b = some o
  kF : ∀ b, c.W0.F b → W.F b
  nF : ∀ b, W.F b → c.W0.F b ∨ c.W0.H b = none
  dF : ∀ b, W.F b → W.H b ≠ none
  loc : ∀ (i : Nat) (d : D), fs[i]? = some (.own false d) → c.W0.H (ad i) = none
  brw : ∀ (i : Nat) (d : D), fs[i]? = some (.own true d) → c.pa i = some (ad i)
  pin : ∀ (i : Nat) (a : Addr), c.pa i = some a → c.W0.H a ≠ none ∧ ¬ c.W0.F a ∧ ∃ d, fs[i]? = some (.own true d)
  kp : ∀ b o, c.kp b = some o → W.H b = some o ∧ ¬ W.F b ∧ ∀ (i : Nat) (p : Bool) (d : D), fs[i]? = some (.own p d) → ad i ≠ b
def Fr (K : PySem.W.Frag) (c : Cn) (σ : L2.St) (W : Wd) (fs : Fs) : Prop := ∃ ad, FrA K c σ W fs ad

section
variable {K : PySem.W.Frag} {c : Cn} {σ : L2.St} {W W' : Wd} {fs : Fs} {ad : Nat → Addr}
theorem FrA.own (h : FrA K c σ W fs ad) {i : Nat} {p : Bool} {d : D} (e : fs[i]? = some (.own p d)) : σ[i]? = some (some (.ref (ad i))) ∧ ¬ W.F (ad i) ∧ Cont K W (ad i) d := h.slot i _ e
theorem FrA.dat (h : FrA K c σ W fs ad) {i : Nat} {d : D} (e : fs[i]? = some (.dat d)) : ∃ v, σ[i]? = some (some v) ∧ Rep K W v d := h.slot i _ e
/-- the heap moves on: what is owned stands -/
theorem FrA.move (h : FrA K c σ W fs ad) (l : Le W W') (st : ∀ i p d, fs[i]? = some (.own p d) → W'.H (ad i) = W.H (ad i) ∧ ¬ W'.F (ad i))
    (keep : ∀ b o, c.W0.H b = some o → (∀ i : Nat, c.pa i ≠ some b) → W'.H b = some o) (nF : ∀ b, W'.F b → c.W0.F b ∨ c.W0.H b = none) (dF : ∀ b, W'.F b → W'.H b ≠ none)
    (kp : ∀ b o, c.kp b = some o → W.H b = some o → W'.H b = some o ∧ ¬ W'.F b) : FrA K c σ W' fs ad where
  len := h.len
  le := h.le.trans l
  slot := fun i s e => by
    have q := h.slot i s e
    cases s with
    | un => trivial
    | tp _ _ => exact q.elim
    | dat d => obtain ⟨v, e1, r⟩ := q; exact ⟨v, e1, r.mono l⟩
    | own p d =>
      obtain ⟨e1, _, r⟩ := q
      obtain ⟨s1, s2⟩ := st i p d e
      exact ⟨e1, s2, r.mono l s1⟩
  sep := h.sep
  keep := keep
  kF := fun b f => (l.frf b (h.kF b f)).1
  nF := nF
  dF := dF
  loc := h.loc
  brw := h.brw
  pin := h.pin
  kp := fun b o e => let ⟨z1, _, z3⟩ := h.kp b o e; ⟨(kp b o e z1).1, (kp b o e z1).2, z3⟩
/-- new objects alone -/
theorem Le.grow {H' : Hp} (ex : ∀ b o, W.H b = some o → H' b = some o) (dF : ∀ b, W.F b → W.H b ≠ none) : Le W ⟨H', W.F⟩ :=
  ⟨fun p xs h => ex p _ h, fun p o u h => ex p _ h, fun p f => ⟨f, by
    cases q : W.H p with
    | none => exact absurd q (dF p f)
    | some o => exact ex p o q⟩⟩
theorem FrA.grow (h : FrA K c σ W fs ad) {H' : Hp} (ex : ∀ b o, W.H b = some o → H' b = some o) : FrA K c σ ⟨H', W.F⟩ fs ad :=
  h.move (Le.grow ex h.dF) (fun i p d e => by
    obtain ⟨_, nf, ct⟩ := h.own e
    obtain ⟨o, q, _⟩ := ct.mut
    exact ⟨(ex _ _ q).trans q.symm, nf⟩) (fun b o q n => ex b o (h.keep b o q n)) h.nF (fun b f q => by
      cases r : W.H b with
      | none => exact h.dF b f r
      | some o =>
        have := ex b o r
        rw [show H' b = none from q] at this
        cases this) fun b o e z => ⟨ex b o z, (h.kp b o e).2.1⟩
/-- an object that nobody here owns is frozen -/
theorem Le.freeze {p : Addr} : Le W ⟨W.H, fun b => W.F b ∨ b = p⟩ := ⟨fun _ _ h => h, fun _ _ _ h => h, fun _ f => ⟨.inl f, rfl⟩⟩
theorem FrA.freeze (h : FrA K c σ W fs ad) {p : Addr} (hp : W.H p ≠ none) (h0 : c.W0.H p = none) (hk : c.kp p = none) (nown : ∀ i q d, fs[i]? = some (.own q d) → ad i ≠ p) : FrA K c σ ⟨W.H, fun b => W.F b ∨ b = p⟩ fs ad :=
  h.move Le.freeze (fun i q d e => ⟨rfl, fun f => by
    rcases f with f | f
    · exact (h.own e).2.1 f
    · exact nown i q d e f⟩) h.keep (fun b f => by
      rcases f with f | f
      · exact h.nF b f
      · exact .inr (f ▸ h0)) (fun b f => by
      rcases f with f | f
      · exact h.dF b f
      · exact f ▸ hp) fun b o e z => ⟨z, fun f => by
      rcases f with f | f
      · exact (h.kp b o e).2.1 f
      · subst f; rw [hk] at e; cases e⟩
/-- a slot turns: to a slot that is right -/
theorem FrA.put (h : FrA K c σ W fs ad) {i : Nat} {ov : Option V} {s : Sl} {a : Addr} (np : ∀ d, fs[i]? ≠ some (.own true d)) (ok : SlOk K W a (some ov) s)
    (fr : ∀ p d, s = .own p d → p = false ∧ c.W0.H a = none ∧ (∀ j q e, j ≠ i → fs[j]? = some (.own q e) → ad j ≠ a) ∧ c.kp a = none) : FrA K c (σ.set i ov) W (fs.set i s) (fun j => if j = i then a else ad j) where
  len := by rw [List.length_set, List.length_set]; exact h.len
  le := h.le
  slot := fun j t e => by
    by_cases hj : j = i
    · subst hj
      have hl : j < fs.length := by
        cases Nat.lt_or_ge j fs.length with
        | inl q => exact q
        | inr q => rw [List.getElem?_eq_none (by rw [List.length_set]; exact q)] at e; cases e
      rw [List.getElem?_set_self hl] at e
      cases e
      rw [if_pos rfl, List.getElem?_set_self (by rw [h.len]; exact hl)]
      exact ok
    · rw [List.getElem?_set_ne (Ne.symm hj)] at e ⊢
      rw [if_neg hj]
      exact h.slot j t e
  sep := fun j k p q d e e1 e2 ea => by
    by_cases hj : j = i
    · by_cases hk : k = i
      · rw [hj, hk]
      · subst hj
        rw [if_pos rfl, if_neg hk] at ea
        rw [List.getElem?_set_ne (Ne.symm hk)] at e2
        have hs : s = .own p d := by
          have hl : j < fs.length := by
            cases Nat.lt_or_ge j fs.length with
            | inl q => exact q
            | inr q => rw [List.getElem?_eq_none (by rw [List.length_set]; exact q)] at e1; cases e1
          rw [List.getElem?_set_self hl] at e1
          exact Option.some.inj e1
        exact absurd ea.symm ((fr p d hs).2.2.1 k q e hk e2)
    · by_cases hk : k = i
      · subst hk
        rw [if_neg hj, if_pos rfl] at ea
        rw [List.getElem?_set_ne (Ne.symm hj)] at e1
        have hs : s = .own q e := by
          have hl : k < fs.length := by
            cases Nat.lt_or_ge k fs.length with
            | inl q => exact q
            | inr q => rw [List.getElem?_eq_none (by rw [List.length_set]; exact q)] at e2; cases e2
          rw [List.getElem?_set_self hl] at e2
          exact Option.some.inj e2
        exact absurd ea ((fr q e hs).2.2.1 j p d hj e1)
      · rw [if_neg hj, if_neg hk] at ea
        rw [List.getElem?_set_ne (Ne.symm hj)] at e1
        rw [List.getElem?_set_ne (Ne.symm hk)] at e2
        exact h.sep j k p q d e e1 e2 ea
  keep := h.keep
  kF := h.kF
  nF := h.nF
  dF := h.dF
  loc := fun j d e => by
    by_cases hj : j = i
    · subst hj
      have hl : j < fs.length := by
        cases Nat.lt_or_ge j fs.length with
        | inl q => exact q
        | inr q => rw [List.getElem?_eq_none (by rw [List.length_set]; exact q)] at e; cases e
      rw [List.getElem?_set_self hl] at e
      rw [if_pos rfl]
      exact (fr _ _ (Option.some.inj e)).2.1
    · rw [List.getElem?_set_ne (Ne.symm hj)] at e
      rw [if_neg hj]
      exact h.loc j d e
  brw := fun j d e => by
    by_cases hj : j = i
    · subst hj
      have hl : j < fs.length := by
        cases Nat.lt_or_ge j fs.length with
        | inl q => exact q
        | inr q => rw [List.getElem?_eq_none (by rw [List.length_set]; exact q)] at e; cases e
      rw [List.getElem?_set_self hl] at e
      exact absurd (fr _ _ (Option.some.inj e)).1 (by decide)
    · rw [List.getElem?_set_ne (Ne.symm hj)] at e
      rw [if_neg hj]
      exact h.brw j d e
  pin := fun j a' e => by
    obtain ⟨h1, h2, d, h3⟩ := h.pin j a' e
    refine ⟨h1, h2, d, ?_⟩
    by_cases hj : j = i
    · subst hj; exact absurd h3 (np d)
    · rw [List.getElem?_set_ne (Ne.symm hj)]; exact h3
  kp := fun b o e => by
    obtain ⟨z1, z2, z3⟩ := h.kp b o e
    refine ⟨z1, z2, fun j q d ej => ?_⟩
    by_cases hj : j = i
    · subst hj
      have hl : j < fs.length := by
        cases Nat.lt_or_ge j fs.length with
        | inl q => exact q
        | inr q => rw [List.getElem?_eq_none (by rw [List.length_set]; exact q)] at ej; cases ej
      rw [List.getElem?_set_self hl] at ej
      rw [if_pos rfl]
      have hk := (fr q d (Option.some.inj ej)).2.2.2
      intro z
      subst z
      rw [hk] at e; cases e
    · rw [List.getElem?_set_ne (Ne.symm hj)] at ej
      rw [if_neg hj]
      exact z3 j q d ej
/-- the slot's abstract side alone turns -/
theorem FrA.put0 (h : FrA K c σ W fs ad) {i : Nat} {s : Sl} (np : ∀ d, fs[i]? ≠ some (.own true d)) (ok : SlOk K W (ad i) σ[i]? s) (fr : ∀ p d, s ≠ .own p d) : FrA K c σ W (fs.set i s) ad where
  len := by rw [List.length_set]; exact h.len
  le := h.le
  slot := fun j t e => by
    by_cases hj : j = i
    · subst hj
      have hl : j < fs.length := by
        cases Nat.lt_or_ge j fs.length with
        | inl q => exact q
        | inr q => rw [List.getElem?_eq_none (by rw [List.length_set]; exact q)] at e; cases e
      rw [List.getElem?_set_self hl] at e
      cases e
      exact ok
    · rw [List.getElem?_set_ne (Ne.symm hj)] at e
      exact h.slot j t e
  sep := fun j k p q d e e1 e2 ea => by
    have a1 : fs[j]? = some (.own p d) := by
      by_cases hj : j = i
      · subst hj
        have hl : j < fs.length := by
          cases Nat.lt_or_ge j fs.length with
          | inl q => exact q
          | inr q => rw [List.getElem?_eq_none (by rw [List.length_set]; exact q)] at e1; cases e1
        rw [List.getElem?_set_self hl] at e1
        exact absurd (Option.some.inj e1) (fr _ _)
      · rw [List.getElem?_set_ne (Ne.symm hj)] at e1; exact e1
    have a2 : fs[k]? = some (.own q e) := by
      by_cases hj : k = i
      · subst hj
        have hl : k < fs.length := by
          cases Nat.lt_or_ge k fs.length with
          | inl q => exact q
          | inr q => rw [List.getElem?_eq_none (by rw [List.length_set]; exact q)] at e2; cases e2
        rw [List.getElem?_set_self hl] at e2
        exact absurd (Option.some.inj e2) (fr _ _)
      · rw [List.getElem?_set_ne (Ne.symm hj)] at e2; exact e2
    exact h.sep j k p q d e a1 a2 ea
  keep := h.keep
  kF := h.kF
  nF := h.nF
  dF := h.dF
  loc := fun j d e => by
    by_cases hj : j = i
    · subst hj
      have hl : j < fs.length := by
        cases Nat.lt_or_ge j fs.length with
        | inl q => exact q
        | inr q => rw [List.getElem?_eq_none (by rw [List.length_set]; exact q)] at e; cases e
      rw [List.getElem?_set_self hl] at e
      exact absurd (Option.some.inj e) (fr _ _)
    · rw [List.getElem?_set_ne (Ne.symm hj)] at e; exact h.loc j d e
  brw := fun j d e => by
    by_cases hj : j = i
    · subst hj
      have hl : j < fs.length := by
        cases Nat.lt_or_ge j fs.length with
        | inl q => exact q
        | inr q => rw [List.getElem?_eq_none (by rw [List.length_set]; exact q)] at e; cases e
      rw [List.getElem?_set_self hl] at e
      exact absurd (Option.some.inj e) (fr _ _)
    · rw [List.getElem?_set_ne (Ne.symm hj)] at e; exact h.brw j d e
  pin := fun j a' e => by
    obtain ⟨h1, h2, d, h3⟩ := h.pin j a' e
    refine ⟨h1, h2, d, ?_⟩
    by_cases hj : j = i
    · subst hj; exact absurd h3 (np d)
    · rw [List.getElem?_set_ne (Ne.symm hj)]; exact h3
  kp := fun b o e => by
    obtain ⟨z1, z2, z3⟩ := h.kp b o e
    refine ⟨z1, z2, fun j q d ej => ?_⟩
    by_cases hj : j = i
    · subst hj
      have hl : j < fs.length := by
        cases Nat.lt_or_ge j fs.length with
        | inl q => exact q
        | inr q => rw [List.getElem?_eq_none (by rw [List.length_set]; exact q)] at ej; cases ej
      rw [List.getElem?_set_self hl] at ej
      exact absurd (Option.some.inj ej) (fr _ _)
    · rw [List.getElem?_set_ne (Ne.symm hj)] at ej
      exact z3 j q d ej
/-- what slot i owns is written -/
theorem Le.write {a : Addr} {o o' : HO} (ha : W.H a = some o) (mu : Mut (some o)) (nf : ¬ W.F a) : Le W ⟨upd W.H a o', W.F⟩ :=
  ⟨fun p xs h => by
    have : p ≠ a := fun e => by subst e; rw [ha] at h; cases h; exact mu
    exact (upd_ne this).trans h, fun p u v h => by
    have : p ≠ a := fun e => by subst e; rw [ha] at h; cases h; exact mu
    exact (upd_ne this).trans h, fun p f => ⟨f, upd_ne fun e => nf (e ▸ f)⟩⟩
theorem FrA.write (h : FrA K c σ W fs ad) {i : Nat} {p : Bool} {d d' : D} {o' : HO} (e : fs[i]? = some (.own p d)) (new : Cont K ⟨upd W.H (ad i) o', W.F⟩ (ad i) d') : FrA K c σ ⟨upd W.H (ad i) o', W.F⟩ (fs.set i (.own p d')) ad := by
  obtain ⟨e1, nf, ct⟩ := h.own e
  obtain ⟨o, ho, mu⟩ := ct.mut
  have l := Le.write (o' := o') ho mu nf
  have hl : i < fs.length := by
    cases Nat.lt_or_ge i fs.length with
    | inl q => exact q
    | inr q => rw [List.getElem?_eq_none q] at e; cases e
  have back : ∀ (j : Nat) (q : Bool) (x : D), (fs.set i (.own p d'))[j]? = some (.own q x) → ∃ y, fs[j]? = some (.own q y) := fun j q x ej => by
    by_cases hj : j = i
    · subst hj
      rw [List.getElem?_set_self hl] at ej
      cases ej
      exact ⟨d, e⟩
    · rw [List.getElem?_set_ne (Ne.symm hj)] at ej
      exact ⟨x, ej⟩
  refine ⟨by rw [List.length_set]; exact h.len, h.le.trans l, fun j s ej => ?_, fun j k q r x y e1 e2 ea => ?_, fun b u q n => ?_, fun b f => h.kF b f, h.nF, fun b f => ?_, fun j x ej => ?_, fun j x ej => ?_, fun j a q => ?_, fun b u eb => ?_⟩
  · by_cases hj : j = i
    · subst hj
      rw [List.getElem?_set_self hl] at ej
      cases ej
      exact ⟨e1, nf, new⟩
    · rw [List.getElem?_set_ne (Ne.symm hj)] at ej
      have q := h.slot j s ej
      cases s with
      | un => trivial
      | tp _ _ => exact q.elim
      | dat x => obtain ⟨v, z1, r⟩ := q; exact ⟨v, z1, r.mono l⟩
      | own q' x =>
        obtain ⟨z1, z2, r⟩ := q
        refine ⟨z1, z2, r.mono l (upd_ne fun z => hj (h.sep j i _ _ _ _ ej e z))⟩
  · obtain ⟨x', f1⟩ := back j q x e1
    obtain ⟨y', f2⟩ := back k r y e2
    exact h.sep j k _ _ _ _ f1 f2 ea
  · have hb : b ≠ ad i := fun z => by
      subst z
      cases p with
      | true => exact n i (h.brw i d e)
      | false => rw [h.loc i d e] at q; cases q
    exact (upd_ne hb).trans (h.keep b u q n)
  · have hb : b ≠ ad i := fun z => nf (z ▸ f)
    show upd W.H (ad i) o' b ≠ none
    rw [upd_ne hb]
    exact h.dF b f
  · obtain ⟨x', f1⟩ := back j _ x ej
    exact h.loc j x' f1
  · obtain ⟨x', f1⟩ := back j _ x ej
    exact h.brw j x' f1
  · obtain ⟨z1, z2, x, z3⟩ := h.pin j a q
    refine ⟨z1, z2, ?_⟩
    by_cases hj : j = i
    · subst hj
      rw [e] at z3
      cases z3
      exact ⟨d', List.getElem?_set_self hl⟩
    · exact ⟨x, by rw [List.getElem?_set_ne (Ne.symm hj)]; exact z3⟩
  · obtain ⟨z1, z2, z3⟩ := h.kp b u eb
    refine ⟨(upd_ne fun z => z3 i p d e z.symm).trans z1, z2, fun j q x ej => ?_⟩
    obtain ⟨y, ey⟩ := back j q x ej
    exact z3 j q y ey
end
end G

namespace G
open PySem PySem.Spec PyProof.Rows L2

/-! what an expression comes to -/
inductive Rx where
  | dt (x : D) | sl (i : Nat) | fr (x : D)
inductive Vx where
  | dt (x : D) | sl (i : Nat)
def Vx.at (fs : Fs) : Vx → Option D
  | .dt x => some x
  | .sl i => match fs[i]? with
    | some (.dat d) => some d
    | some (.own _ d) => some d
    | _ => none
abbrev XF := Option (List (Str × D))
abbrev XP := Value → XF → Fs → Prop
abbrev X0 : XP := fun _ _ _ => False
abbrev AX := XP → Fs → (Rx → Fs → Prop) → Prop
abbrev AV := XP → Fs → (Vx → Fs → Prop) → Prop
abbrev AD := XP → Fs → (D → Fs → Prop) → Prop
abbrev AL := XP → Fs → (List D → Fs → Prop) → Prop
abbrev AVs := XP → Fs → (List Vx → Fs → Prop) → Prop
abbrev AT := XP → Fs → (Bool → Fs → Prop) → Prop
structure AEnds where
  nx : Fs → Prop
  rt : Sl → Fs → Prop
  bk : Fs → Prop := fun _ => False
  ct : Fs → Prop := fun _ => False
abbrev AS := XP → AEnds → Fs → Prop

def XFld (K : PySem.W.Frag) (W : Wd) : Option Addr → XF → Prop
  | none, none => True
  | some a, some fs => ∃ vs : List (Str × V), W.F a ∧ W.H a = some (.xd vs) ∧ vs.map (·.1) = fs.map (·.1) ∧ Reps K W (vs.map (·.2)) (fs.map (·.2))
  | _, _ => False
def AdX (K : PySem.W.Frag) (c : Cn) (Ec : L2.St → XK) (E : XP) : Prop :=
  ∀ σ W fs cls od xf, Fr K c σ W fs → XFld K W od xf → E cls xf fs → Ec σ cls od W.H
theorem AdX.x0 {K : PySem.W.Frag} {c : Cn} {Ec : L2.St → XK} : AdX K c Ec X0 := fun _ _ _ _ _ _ _ _ h => h.elim

def RxOk (K : PySem.W.Frag) (c : Cn) (W : Wd) (σ : L2.St) (fs : Fs) (v : V) : Rx → Prop
  | .dt x => Rep K W v x
  | .sl i => σ[i]? = some (some v)
  | .fr x => ∃ p, v = .ref p ∧ c.W0.H p = none ∧ ¬ W.F p ∧ Cont K W p x ∧ (∀ (i : Nat) (q : Bool) (d : D), fs[i]? = some (.own q d) → σ[i]? ≠ some (some (.ref p))) ∧ c.kp p = none

def SndX (K : PySem.W.Frag) (Ec : L2.St → XK) (t : TE) (a : AX) : Prop :=
  ∀ (c : Cn) (σ : L2.St) (W : Wd) (fs : Fs) (E : XP) (Q : VK) (Q' : Rx → Fs → Prop), Fr K c σ W fs → AdX K c Ec E → a E fs Q' →
    (∀ v r W' fs', Le W W' → Fr K c σ W' fs' → RxOk K c W' σ fs' v r → Q' r fs' → Q v W'.H) → t σ W.H Q
def SndD (K : PySem.W.Frag) (Ec : L2.St → XK) (t : TE) (a : AD) : Prop :=
  ∀ (c : Cn) (σ : L2.St) (W : Wd) (fs : Fs) (E : XP) (Q : VK) (Q' : D → Fs → Prop), Fr K c σ W fs → AdX K c Ec E → a E fs Q' →
    (∀ v d W' fs', Le W W' → Fr K c σ W' fs' → Rep K W' v d → Q' d fs' → Q v W'.H) → t σ W.H Q
def SndT (K : PySem.W.Frag) (Ec : L2.St → XK) (t : TT) (a : AT) : Prop :=
  ∀ (c : Cn) (σ : L2.St) (W : Wd) (fs : Fs) (E : XP) (Q : Bool → Hp → Prop) (Q' : Bool → Fs → Prop), Fr K c σ W fs → AdX K c Ec E → a E fs Q' →
    (∀ b W' fs', Le W W' → Fr K c σ W' fs' → Q' b fs' → Q b W'.H) → t σ W.H Q
/-- a list of values, each as data or a slot -/
def VsOk (K : PySem.W.Frag) (W : Wd) (σ : L2.St) : List V → List Vx → Prop
  | [], [] => True
  | v :: vs, .dt x :: rs => Rep K W v x ∧ VsOk K W σ vs rs
  | v :: vs, .sl i :: rs => σ[i]? = some (some v) ∧ VsOk K W σ vs rs
  | _, _ => False
theorem VsOk.mono {K : PySem.W.Frag} {W W' : Wd} {σ : L2.St} (l : Le W W') : ∀ {vs : List V} {rs : List Vx}, VsOk K W σ vs rs → VsOk K W' σ vs rs
  | [], [], h => h
  | v :: vs, .dt x :: rs, h => ⟨h.1.mono l, VsOk.mono l h.2⟩
  | v :: vs, .sl i :: rs, h => ⟨h.1, VsOk.mono l h.2⟩
  | [], _ :: _, h => h.elim
  | _ :: _, [], h => h.elim
theorem VsOk.cons {K : PySem.W.Frag} {W : Wd} {σ : L2.St} {v : V} {r : Vx} {vs : List V} {rs : List Vx} (h : VsOk K W σ [v] [r]) (h2 : VsOk K W σ vs rs) : VsOk K W σ (v :: vs) (r :: rs) := by
  cases r with
  | dt x => exact ⟨h.1, h2⟩
  | sl i => exact ⟨h.1, h2⟩
def SndVs (K : PySem.W.Frag) (Ec : L2.St → XK) (t : TA) (a : AVs) : Prop :=
  ∀ (c : Cn) (σ : L2.St) (W : Wd) (fs : Fs) (E : XP) (Q : List V → Hp → Prop) (Q' : List Vx → Fs → Prop), Fr K c σ W fs → AdX K c Ec E → a E fs Q' →
    (∀ vs rs W' fs', Le W W' → Fr K c σ W' fs' → VsOk K W' σ vs rs → Q' rs fs' → Q vs W'.H) → t σ W.H Q
def SndL (K : PySem.W.Frag) (Ec : L2.St → XK) (t : TA) (a : AL) : Prop :=
  ∀ (c : Cn) (σ : L2.St) (W : Wd) (fs : Fs) (E : XP) (Q : List V → Hp → Prop) (Q' : List D → Fs → Prop), Fr K c σ W fs → AdX K c Ec E → a E fs Q' →
    (∀ vs ds W' fs', Le W W' → Fr K c σ W' fs' → Reps K W' vs ds → Q' ds fs' → Q vs W'.H) → t σ W.H Q
def RetOk (K : PySem.W.Frag) (c : Cn) (W : Wd) (v : V) : Sl → Prop
  | .dat d => Rep K W v d
  | .own false d => ∃ p, v = .ref p ∧ c.W0.H p = none ∧ ¬ W.F p ∧ Cont K W p d ∧ c.kp p = none
  | .tp ds e => ∃ p vs q, v = .ref p ∧ W.H p = some (.tup (vs ++ [.ref q])) ∧ Reps K W vs ds ∧ c.W0.H q = none ∧ ¬ W.F q ∧ Cont K W q e ∧ c.kp q = none
  | _ => False
structure EndsOk (K : PySem.W.Frag) (c : Cn) (W : Wd) (D : Ends) (A : AEnds) : Prop where
  nx : ∀ σ' W' fs', Le W W' → Fr K c σ' W' fs' → A.nx fs' → D.nx σ' W'.H
  rt : ∀ v r σ' W' fs', Le W W' → Fr K c σ' W' fs' → RetOk K c W' v r → A.rt r fs' → D.rt v W'.H
  bk : ∀ σ' W' fs', Le W W' → Fr K c σ' W' fs' → A.bk fs' → D.bk σ' W'.H
  ct : ∀ σ' W' fs', Le W W' → Fr K c σ' W' fs' → A.ct fs' → D.ct σ' W'.H
theorem EndsOk.mono {K : PySem.W.Frag} {c : Cn} {W W1 : Wd} {D : Ends} {A : AEnds} (h : EndsOk K c W D A) (l : Le W W1) : EndsOk K c W1 D A :=
  ⟨fun σ' W' fs' l' => h.nx σ' W' fs' (l.trans l'), fun v r σ' W' fs' l' => h.rt v r σ' W' fs' (l.trans l'), fun σ' W' fs' l' => h.bk σ' W' fs' (l.trans l'), fun σ' W' fs' l' => h.ct σ' W' fs' (l.trans l')⟩
def SndS (K : PySem.W.Frag) (Ec : L2.St → XK) (t : TS) (a : AS) : Prop :=
  ∀ (c : Cn) (σ : L2.St) (W : Wd) (fs : Fs) (E : XP) (D : Ends) (A : AEnds), Fr K c σ W fs → AdX K c Ec E → a E A fs → EndsOk K c W D A → t D σ W.H

/-- judgements: a rule with its reading, and without -/
def cSndX (K : PySem.W.Frag) (Ec : L2.St → XK) (a : AX) : TE := fun σ H Q => ∃ (c : Cn) (W : Wd) (fs : Fs) (E : XP) (Q' : Rx → Fs → Prop), W.H = H ∧ Fr K c σ W fs ∧ AdX K c Ec E ∧ a E fs Q' ∧ ∀ v r W' fs', Le W W' → Fr K c σ W' fs' → RxOk K c W' σ fs' v r → Q' r fs' → Q v W'.H
theorem cSndX.s {K : PySem.W.Frag} {Ec : L2.St → XK} {a : AX} : SndX K Ec (cSndX K Ec a) a := fun c σ W fs E Q Q' F A h k => ⟨c, W, fs, E, Q', rfl, F, A, h, k⟩
structure EXt (X : Cx) (Ec : L2.St → XK) (e : Expr) (t : TE) (a : AX) : Prop where
  p : PE X e t
  s : SndX X.K Ec t a
structure EX (X : Cx) (Ec : L2.St → XK) (e : Expr) (a : AX) : Prop where
  p : PE X e (cSndX X.K Ec a)
theorem EX.s {X : Cx} {Ec : L2.St → XK} {e : Expr} {a : AX} (_ : EX X Ec e a) : SndX X.K Ec (cSndX X.K Ec a) a := cSndX.s
theorem EXt.x {X : Cx} {Ec : L2.St → XK} {e : Expr} {t : TE} {a : AX} (h : EXt X Ec e t a) : EX X Ec e a := ⟨⟨by
  obtain ⟨p, q⟩ := h
  exact fun pins s σ H Q I ⟨c, W, fs, E, Q', e, F, A, h, k⟩ => by subst e; exact p.run pins s σ W.H Q I (q c σ W fs E Q Q' F A h k)⟩⟩
def cSndT (K : PySem.W.Frag) (Ec : L2.St → XK) (a : AT) : TT := fun σ H Q => ∃ (c : Cn) (W : Wd) (fs : Fs) (E : XP) (Q' : Bool → Fs → Prop), W.H = H ∧ Fr K c σ W fs ∧ AdX K c Ec E ∧ a E fs Q' ∧ ∀ b W' fs', Le W W' → Fr K c σ W' fs' → Q' b fs' → Q b W'.H
theorem cSndT.s {K : PySem.W.Frag} {Ec : L2.St → XK} {a : AT} : SndT K Ec (cSndT K Ec a) a := fun c σ W fs E Q Q' F A h k => ⟨c, W, fs, E, Q', rfl, F, A, h, k⟩
structure ETt (X : Cx) (Ec : L2.St → XK) (e : Expr) (t : TT) (a : AT) : Prop where
  p : PT X e t
  s : SndT X.K Ec t a
structure ET (X : Cx) (Ec : L2.St → XK) (e : Expr) (a : AT) : Prop where
  p : PT X e (cSndT X.K Ec a)
theorem ET.s {X : Cx} {Ec : L2.St → XK} {e : Expr} {a : AT} (_ : ET X Ec e a) : SndT X.K Ec (cSndT X.K Ec a) a := cSndT.s
theorem ETt.x {X : Cx} {Ec : L2.St → XK} {e : Expr} {t : TT} {a : AT} (h : ETt X Ec e t a) : ET X Ec e a := ⟨⟨by
  obtain ⟨p, q⟩ := h
  exact fun pins s σ H Q I ⟨c, W, fs, E, Q', e, F, A, h, k⟩ => by subst e; exact p.run pins s σ W.H Q I (q c σ W fs E Q Q' F A h k)⟩⟩
structure EWt (X : Cx) (Ec : L2.St → XK) (e : Expr) (t : TT) (a : AT) : Prop where
  p : PW X e t
  s : SndT X.K Ec t a
structure EW (X : Cx) (Ec : L2.St → XK) (e : Expr) (a : AT) : Prop where
  p : PW X e (cSndT X.K Ec a)
theorem EW.s {X : Cx} {Ec : L2.St → XK} {e : Expr} {a : AT} (_ : EW X Ec e a) : SndT X.K Ec (cSndT X.K Ec a) a := cSndT.s
theorem EWt.x {X : Cx} {Ec : L2.St → XK} {e : Expr} {t : TT} {a : AT} (h : EWt X Ec e t a) : EW X Ec e a := ⟨⟨by
  obtain ⟨p, q⟩ := h
  exact fun wh pins s σ H Q I ⟨c, W, fs, E, Q', e, F, A, h, k⟩ => by subst e; exact p.run wh pins s σ W.H Q I (q c σ W fs E Q Q' F A h k)⟩⟩
def cSndVs (K : PySem.W.Frag) (Ec : L2.St → XK) (a : AVs) : TA := fun σ H Q => ∃ (c : Cn) (W : Wd) (fs : Fs) (E : XP) (Q' : List Vx → Fs → Prop), W.H = H ∧ Fr K c σ W fs ∧ AdX K c Ec E ∧ a E fs Q' ∧ ∀ vs rs W' fs', Le W W' → Fr K c σ W' fs' → VsOk K W' σ vs rs → Q' rs fs' → Q vs W'.H
theorem cSndVs.s {K : PySem.W.Frag} {Ec : L2.St → XK} {a : AVs} : SndVs K Ec (cSndVs K Ec a) a := fun c σ W fs E Q Q' F A h k => ⟨c, W, fs, E, Q', rfl, F, A, h, k⟩
structure EVst (X : Cx) (Ec : L2.St → XK) (e : List Expr) (t : TA) (a : AVs) : Prop where
  p : PA X e t
  s : SndVs X.K Ec t a
structure EVs (X : Cx) (Ec : L2.St → XK) (e : List Expr) (a : AVs) : Prop where
  p : PA X e (cSndVs X.K Ec a)
theorem EVs.s {X : Cx} {Ec : L2.St → XK} {e : List Expr} {a : AVs} (_ : EVs X Ec e a) : SndVs X.K Ec (cSndVs X.K Ec a) a := cSndVs.s
theorem EVst.x {X : Cx} {Ec : L2.St → XK} {e : List Expr} {t : TA} {a : AVs} (h : EVst X Ec e t a) : EVs X Ec e a := ⟨⟨by
  obtain ⟨p, q⟩ := h
  exact fun pos pins s σ H Q I ⟨c, W, fs, E, Q', e, F, A, h, k⟩ => by subst e; exact p.run pos pins s σ W.H Q I (q c σ W fs E Q Q' F A h k)⟩⟩
def cSndL (K : PySem.W.Frag) (Ec : L2.St → XK) (a : AL) : TA := fun σ H Q => ∃ (c : Cn) (W : Wd) (fs : Fs) (E : XP) (Q' : List D → Fs → Prop), W.H = H ∧ Fr K c σ W fs ∧ AdX K c Ec E ∧ a E fs Q' ∧ ∀ vs ds W' fs', Le W W' → Fr K c σ W' fs' → Reps K W' vs ds → Q' ds fs' → Q vs W'.H
theorem cSndL.s {K : PySem.W.Frag} {Ec : L2.St → XK} {a : AL} : SndL K Ec (cSndL K Ec a) a := fun c σ W fs E Q Q' F A h k => ⟨c, W, fs, E, Q', rfl, F, A, h, k⟩
structure ELt (X : Cx) (Ec : L2.St → XK) (e : List Expr) (t : TA) (a : AL) : Prop where
  p : PA X e t
  s : SndL X.K Ec t a
structure EL (X : Cx) (Ec : L2.St → XK) (e : List Expr) (a : AL) : Prop where
  p : PA X e (cSndL X.K Ec a)
theorem EL.s {X : Cx} {Ec : L2.St → XK} {e : List Expr} {a : AL} (_ : EL X Ec e a) : SndL X.K Ec (cSndL X.K Ec a) a := cSndL.s
theorem ELt.x {X : Cx} {Ec : L2.St → XK} {e : List Expr} {t : TA} {a : AL} (h : ELt X Ec e t a) : EL X Ec e a := ⟨⟨by
  obtain ⟨p, q⟩ := h
  exact fun pos pins s σ H Q I ⟨c, W, fs, E, Q', e, F, A, h, k⟩ => by subst e; exact p.run pos pins s σ W.H Q I (q c σ W fs E Q Q' F A h k)⟩⟩
def cSndS (K : PySem.W.Frag) (Ec : L2.St → XK) (a : AS) : TS := fun D σ H => ∃ (c : Cn) (W : Wd) (fs : Fs) (E : XP) (A : AEnds), W.H = H ∧ Fr K c σ W fs ∧ AdX K c Ec E ∧ a E A fs ∧ EndsOk K c W D A
theorem cSndS.s {K : PySem.W.Frag} {Ec : L2.St → XK} {a : AS} : SndS K Ec (cSndS K Ec a) a := fun c σ W fs E D A F ad h k => ⟨c, W, fs, E, A, rfl, F, ad, h, k⟩
structure SXt (X : Cx) (Ec : L2.St → XK) (e : Stmt) (t : TS) (a : AS) : Prop where
  p : PS X e t
  s : SndS X.K Ec t a
structure SX (X : Cx) (Ec : L2.St → XK) (e : Stmt) (a : AS) : Prop where
  p : PS X e (cSndS X.K Ec a)
theorem SX.s {X : Cx} {Ec : L2.St → XK} {e : Stmt} {a : AS} (_ : SX X Ec e a) : SndS X.K Ec (cSndS X.K Ec a) a := cSndS.s
theorem SXt.x {X : Cx} {Ec : L2.St → XK} {e : Stmt} {t : TS} {a : AS} (h : SXt X Ec e t a) : SX X Ec e a := ⟨⟨by
  obtain ⟨p, q⟩ := h
  exact fun pins s σ H D I ⟨c, W, fs, E, A, e, F, ad, h, k⟩ => by subst e; exact p.run pins s σ W.H D I (q c σ W fs E D A F ad h k)⟩⟩
structure SXst (X : Cx) (Ec : L2.St → XK) (e : List Stmt) (t : TS) (a : AS) : Prop where
  p : PSs X e t
  s : SndS X.K Ec t a
structure SXs (X : Cx) (Ec : L2.St → XK) (e : List Stmt) (a : AS) : Prop where
  p : PSs X e (cSndS X.K Ec a)
theorem SXs.s {X : Cx} {Ec : L2.St → XK} {e : List Stmt} {a : AS} (_ : SXs X Ec e a) : SndS X.K Ec (cSndS X.K Ec a) a := cSndS.s
theorem SXst.x {X : Cx} {Ec : L2.St → XK} {e : List Stmt} {t : TS} {a : AS} (h : SXst X Ec e t a) : SXs X Ec e a := ⟨⟨by
  obtain ⟨p, q⟩ := h
  exact fun pins s σ H D I ⟨c, W, fs, E, A, e, F, ad, h, k⟩ => by subst e; exact p.run pins s σ W.H D I (q c σ W fs E D A F ad h k)⟩⟩
/-- as a value: a fresh thing is frozen -/
def kV (Q : Vx → Fs → Prop) (r : Rx) (fs' : Fs) : Prop := match r with
  | .dt x => Q (.dt x) fs'
  | .sl i => Q (.sl i) fs'
  | .fr x => Q (.dt x) fs'
def aV (a : AX) (E : XP) (fs : Fs) (Q : Vx → Fs → Prop) : Prop := a E fs (kV Q)
/-- as data: an owned slot is frozen -/
def kD (Q : D → Fs → Prop) (r : Rx) (fs' : Fs) : Prop := match r with
  | .dt x => Q x fs'
  | .fr x => Q x fs'
  | .sl i => match fs'[i]? with
    | some (.dat d) => Q d fs'
    | some (.own false d) => Q d (fs'.set i (.dat d))
    | _ => False
def aD (a : AX) (E : XP) (fs : Fs) (Q : D → Fs → Prop) : Prop := a E fs (kD Q)

section
variable {K : PySem.W.Frag} {Ec : L2.St → XK} {c : Cn} {σ : L2.St} {W : Wd} {fs : Fs}
theorem Fr.len (h : Fr K c σ W fs) : σ.length = fs.length := let ⟨_, q⟩ := h; q.len
theorem Fr.dF (h : Fr K c σ W fs) : ∀ b, W.F b → W.H b ≠ none := let ⟨_, q⟩ := h; q.dF
/-- a fresh thing is frozen -/
theorem fresh_freeze {v : V} {x : D} (h : Fr K c σ W fs) (r : RxOk K c W σ fs v (.fr x)) : ∃ W', W'.H = W.H ∧ Le W W' ∧ Fr K c σ W' fs ∧ Rep K W' v x := by
  obtain ⟨p, rfl, h0, nf, ct, no, hk⟩ := r
  obtain ⟨ad, q⟩ := h
  obtain ⟨o, ho, _⟩ := ct.mut
  refine ⟨⟨W.H, fun b => W.F b ∨ b = p⟩, rfl, Le.freeze, ⟨ad, q.freeze (by rw [ho]; simp) h0 hk fun i b d e z => no i b d e (z ▸ (q.own e).1)⟩, ?_⟩
  exact (ct.mono Le.freeze rfl).rep (.inr rfl)
/-- an owned slot is frozen -/
theorem slot_freeze {i : Nat} {x : D} {v : V} (h : Fr K c σ W fs) (e : fs[i]? = some (.own false x)) (ev : σ[i]? = some (some v)) : ∃ W', W'.H = W.H ∧ Le W W' ∧ Fr K c σ W' (fs.set i (.dat x)) ∧ Rep K W' v x := by
  obtain ⟨ad, q⟩ := h
  obtain ⟨e1, nf, ct⟩ := q.own e
  obtain ⟨o, ho, _⟩ := ct.mut
  have ev' : v = .ref (ad i) := by rw [e1] at ev; cases ev; rfl
  subst ev'
  have rp : Rep K ⟨W.H, fun b => W.F b ∨ b = ad i⟩ (.ref (ad i)) x := (ct.mono Le.freeze rfl).rep (.inr rfl)
  have q1 : FrA K c σ W (fs.set i .un) ad := q.put0 (fun d z => by rw [e] at z; cases z) trivial (fun _ _ z => by cases z)
  have hl : i < fs.length := by
    cases Nat.lt_or_ge i fs.length with
    | inl z => exact z
    | inr z => rw [List.getElem?_eq_none z] at e; cases e
  have hk : c.kp (ad i) = none := by
    cases z : c.kp (ad i) with
    | none => rfl
    | some o => exact absurd rfl ((q.kp _ o z).2.2 i _ _ e)
  have q2 := q1.freeze (p := ad i) (by rw [ho]; simp) (q.loc i x e) hk fun j b d ej z => by
    by_cases hj : j = i
    · subst hj; rw [List.getElem?_set_self hl] at ej; cases ej
    · rw [List.getElem?_set_ne (Ne.symm hj)] at ej
      exact hj (q.sep j i _ _ _ _ ej e z)
  have q3 := q2.put0 (i := i) (s := .dat x) (fun d z => by rw [List.getElem?_set_self hl] at z; cases z) ⟨_, e1, rp⟩ (fun _ _ z => by cases z)
  rw [List.set_set] at q3
  exact ⟨⟨W.H, fun b => W.F b ∨ b = ad i⟩, rfl, Le.freeze, ⟨ad, q3⟩, rp⟩
def SndV (K : PySem.W.Frag) (Ec : L2.St → XK) (t : TE) (a : AV) : Prop :=
  ∀ (c : Cn) (σ : L2.St) (W : Wd) (fs : Fs) (E : XP) (Q : VK) (Q' : Vx → Fs → Prop), Fr K c σ W fs → AdX K c Ec E → a E fs Q' →
    (∀ v r W' fs', Le W W' → Fr K c σ W' fs' → VsOk K W' σ [v] [r] → Q' r fs' → Q v W'.H) → t σ W.H Q
theorem SndX.v {t : TE} {a : AX} (h : SndX K Ec t a) : SndV K Ec t (aV a) := fun c σ W fs E Q Q' F A ha k => by
  refine h c σ W fs E Q _ F A ha fun v r W' fs' l F' ro q => ?_
  cases r with
  | dt x => exact k v (.dt x) W' fs' l F' ⟨ro, trivial⟩ q
  | sl i => exact k v (.sl i) W' fs' l F' ⟨ro, trivial⟩ q
  | fr x =>
    obtain ⟨W2, e2, l2, F2, r2⟩ := fresh_freeze F' ro
    rw [← e2]
    exact k v (.dt x) W2 fs' (l.trans l2) F2 ⟨r2, trivial⟩ q
theorem SndX.dd {t : TE} {a : AX} (h : SndX K Ec t a) : SndD K Ec t (aD a) := fun c σ W fs E Q Q' F A ha k => by
  refine h c σ W fs E Q _ F A ha fun v r W' fs' l F' ro q => ?_
  cases r with
  | dt x => exact k v x W' fs' l F' ro q
  | sl i =>
    have q' : (match fs'[i]? with
      | some (.dat d) => Q' d fs'
      | some (.own false d) => Q' d (fs'.set i (.dat d))
      | _ => False) := q
    split at q'
    · rename_i d e
      obtain ⟨ad, z⟩ := id F'
      obtain ⟨v', e1, r1⟩ := z.dat e
      have : σ[i]? = some (some v) := ro
      rw [this] at e1
      cases e1
      exact k v d W' fs' l F' r1 q'
    · rename_i d e
      obtain ⟨W2, e2, l2, F2, r2⟩ := slot_freeze F' e ro
      rw [← e2]
      exact k v d W2 _ (l.trans l2) F2 r2 q'
    · exact q'.elim
  | fr x =>
    obtain ⟨W2, e2, l2, F2, r2⟩ := fresh_freeze F' ro
    rw [← e2]
    exact k v x W2 fs' (l.trans l2) F2 r2 q
end

/-! lists of expressions -/
def kCons {α : Type} (Q : List α → Fs → Prop) (x : α) (xs : List α) (fs : Fs) : Prop := Q (x :: xs) fs
def kVs {α : Type} (r : XP → Fs → (List α → Fs → Prop) → Prop) (E : XP) (Q : List α → Fs → Prop) (x : α) (fs1 : Fs) : Prop := r E fs1 (kCons Q x)
def aVs : List AX → XP → Fs → (List Vx → Fs → Prop) → Prop
  | [], _, fs, Q => Q [] fs
  | a :: r, E, fs, Q => aV a E fs (kVs (aVs r) E Q)
def aLs : List AX → XP → Fs → (List D → Fs → Prop) → Prop
  | [], _, fs, Q => Q [] fs
  | a :: r, E, fs, Q => aD a E fs (kVs (aLs r) E Q)
section
variable {X : Cx} {Ec : L2.St → XK} {e : Expr} {es : List Expr} {te : TE} {ta : TA} {a : AX} {as : List AX}
theorem ev_nil : EVs X Ec [] (aVs []) := EVst.x ⟨pa_nil, fun c σ W fs E Q Q' F A h k => k [] [] W fs (Le.refl W) F trivial h⟩
theorem ev_cons (h1 : EX X Ec e a) (h2 : EVs X Ec es (aVs as)) (hs : starEach (e :: es) X.env = (false, eval e X.env) :: starEach es X.env := by rfl) : EVs X Ec (e :: es) (aVs (a :: as)) :=
  EVst.x ⟨pa_cons h1.p h2.p hs, fun c σ W fs E Q Q' F A h k => by
    refine h1.s.v c σ W fs E _ _ F A h fun v r W1 fs1 l1 F1 r1 q1 => ?_
    refine h2.s c σ W1 fs1 E _ _ F1 A q1 fun vs rs W2 fs2 l2 F2 r2 q2 => ?_
    exact k _ _ W2 fs2 (l1.trans l2) F2 (VsOk.cons (r1.mono l2) r2) q2⟩
theorem el_nil : EL X Ec [] (aLs []) := ELt.x ⟨pa_nil, fun c σ W fs E Q Q' F A h k => k [] [] W fs (Le.refl W) F .nil h⟩
theorem el_cons (h1 : EX X Ec e a) (h2 : EL X Ec es (aLs as)) (hs : starEach (e :: es) X.env = (false, eval e X.env) :: starEach es X.env := by rfl) : EL X Ec (e :: es) (aLs (a :: as)) :=
  ELt.x ⟨pa_cons h1.p h2.p hs, fun c σ W fs E Q Q' F A h k => by
    refine h1.s.dd c σ W fs E _ _ F A h fun v r W1 fs1 l1 F1 r1 q1 => ?_
    refine h2.s c σ W1 fs1 E _ _ F1 A q1 fun vs rs W2 fs2 l2 F2 r2 q2 => ?_
    exact k _ _ W2 fs2 (l1.trans l2) F2 (.cons (r1.mono l2) r2) q2⟩
end
end G

namespace G
open PySem PySem.Spec PyProof.Rows L2

/-! views -/
def Vw (K : PySem.W.Frag) (W : Wd) (v : V) (d : D) : Prop := Rep K W v d ∨ ∃ a, v = .ref a ∧ Cont K W a d
theorem Vw.lst {K : PySem.W.Frag} {W : Wd} {v : V} {ds : List D} (h : Vw K W v (.lst ds)) : ∃ a vs, v = .ref a ∧ SqL K W.H a vs ∧ Reps K W vs ds := by
  rcases h with h | ⟨a, e, vs, q, r⟩
  · cases h with
    | lst f h r => exact ⟨_, _, rfl, .inl h, r⟩
    | lstK h r => exact ⟨_, _, rfl, .inr h, r⟩
  · exact ⟨a, vs, e, .inl (.inl q), r⟩
theorem Vw.rep {K : PySem.W.Frag} {W : Wd} {v : V} {d : D} (h : Vw K W v d) (n : match d with | .lst _ => False | .dct _ _ => False | .obj _ _ _ => False | _ => True) : Rep K W v d := by
  rcases h with h | ⟨a, e, q⟩
  · exact h
  · cases d <;> first | exact n.elim | exact q.elim
theorem Vw.int {K : PySem.W.Frag} {W : Wd} {v : V} {i : Int} (h : Vw K W v (.int i)) : v = .int i := by
  have q := h.rep trivial; cases q; rfl
theorem Vw.str {K : PySem.W.Frag} {W : Wd} {v : V} {i : Str} (h : Vw K W v (.str i)) : v = .str i := by
  have q := h.rep trivial; cases q; rfl
theorem Vw.bl {K : PySem.W.Frag} {W : Wd} {v : V} {i : Bool} (h : Vw K W v (.bl i)) : v = .bl i := by
  have q := h.rep trivial; cases q; rfl
theorem Vw.non {K : PySem.W.Frag} {W : Wd} {v : V} (h : Vw K W v .non) : v = .non := by
  have q := h.rep trivial; cases q; rfl
theorem Vw.tup {K : PySem.W.Frag} {W : Wd} {v : V} {ds : List D} (h : Vw K W v (.tup ds)) : ∃ a vs, v = .ref a ∧ SqT K W.H a vs ∧ Reps K W vs ds := by
  have q := h.rep trivial
  cases q with
  | tup h1 r => exact ⟨_, _, rfl, h1, r⟩
theorem Vw.of {K : PySem.W.Frag} {c : Cn} {σ : L2.St} {W : Wd} {fs : Fs} {v : V} {r : Vx} {d : D} (F : Fr K c σ W fs) (h : VsOk K W σ [v] [r]) (e : r.at fs = some d) : Vw K W v d := by
  cases r with
  | dt x => cases e; exact .inl h.1
  | sl i =>
    obtain ⟨ad, q⟩ := F
    have e' : (match fs[i]? with
      | some (.dat d) => some d
      | some (.own _ d) => some d
      | _ => none) = some d := e
    split at e'
    · rename_i x ei
      cases e'
      obtain ⟨w, e1, r1⟩ := q.dat ei
      have hv : σ[i]? = some (some v) := h.1
      rw [hv] at e1; cases e1
      exact .inl r1
    · rename_i p x ei
      cases e'
      obtain ⟨e1, _, ct⟩ := q.own ei
      have hv : σ[i]? = some (some v) := h.1
      rw [hv] at e1; cases e1
      exact .inr ⟨_, rfl, ct⟩
    · cases e'
def Vws (K : PySem.W.Frag) (W : Wd) : List V → List D → Prop
  | [], [] => True
  | v :: vs, d :: ds => Vw K W v d ∧ Vws K W vs ds
  | _, _ => False
def Vx.ats (fs : Fs) : List Vx → Option (List D)
  | [] => some []
  | r :: rs => match r.at fs, Vx.ats fs rs with
    | some d, some ds => some (d :: ds)
    | _, _ => none
theorem Vws.of {K : PySem.W.Frag} {c : Cn} {σ : L2.St} {W : Wd} {fs : Fs} (F : Fr K c σ W fs) : ∀ {vs : List V} {rs : List Vx} {ds : List D}, VsOk K W σ vs rs → Vx.ats fs rs = some ds → Vws K W vs ds
  | [], [], _, _, e => by cases e; trivial
  | [], _ :: _, _, h, _ => h.elim
  | _ :: _, [], _, h, _ => h.elim
  | v :: vs, r :: rs, ds, h, e => by
    unfold Vx.ats at e
    split at e
    · rename_i d ds' e1 e2
      cases e
      cases r with
      | dt x => exact ⟨Vw.of (r := .dt x) F ⟨h.1, trivial⟩ e1, Vws.of F h.2 e2⟩
      | sl i => exact ⟨Vw.of (r := .sl i) F ⟨h.1, trivial⟩ e1, Vws.of F h.2 e2⟩
    · cases e

/-! results of operations -/
inductive Zx where
  | dt (x : D) | fr (x : D)
def Zx.rx : Zx → Rx
  | .dt x => .dt x
  | .fr x => .fr x
def ZxOk (K : PySem.W.Frag) (W W' : Wd) (v : V) : Zx → Prop
  | .dt x => Rep K W' v x
  | .fr x => ∃ p, v = .ref p ∧ W.H p = none ∧ ¬ W'.F p ∧ Cont K W' p x
def Exs (H H' : Hp) : Prop := ∀ b o, H b = some o → H' b = some o
theorem Exs.refl (H : Hp) : Exs H H := fun _ _ h => h
theorem Exs.new {H : Hp} {p : Addr} {o : HO} (n : H p = none) : Exs H (upd H p o) := fun b u e => by
  rw [upd_ne (ne_of_none e n)]; exact e
section
variable {K : PySem.W.Frag} {Ec : L2.St → XK} {c : Cn} {σ : L2.St} {W : Wd} {fs : Fs}
theorem Fr.grow {H' : Hp} (h : Fr K c σ W fs) (ex : Exs W.H H') : Fr K c σ ⟨H', W.F⟩ fs := let ⟨ad, q⟩ := h; ⟨ad, q.grow ex⟩
theorem Fr.new0 (h : Fr K c σ W fs) {p : Addr} (n : W.H p = none) : c.W0.H p = none := by
  obtain ⟨ad, q⟩ := h
  cases e : c.W0.H p with
  | none => rfl
  | some o =>
    by_cases hp : ∃ i, c.pa i = some p
    · obtain ⟨i, hi⟩ := hp
      obtain ⟨_, _, d, hd⟩ := q.pin i p hi
      have hb := q.brw i d hd
      rw [hi] at hb
      obtain ⟨_, _, ct⟩ := q.own hd
      obtain ⟨o', ho, _⟩ := ct.mut
      rw [← Option.some.inj hb, n] at ho
      cases ho
    · have := q.keep p o e fun i hi => hp ⟨i, hi⟩
      rw [n] at this; cases this
theorem Fr.newS (h : Fr K c σ W fs) {p : Addr} (n : W.H p = none) {i : Nat} {b : Bool} {d : D} (e : fs[i]? = some (.own b d)) : σ[i]? ≠ some (some (.ref p)) := fun z => by
  obtain ⟨ad, q⟩ := h
  obtain ⟨e1, _, ct⟩ := q.own e
  obtain ⟨o', ho, _⟩ := ct.mut
  rw [e1] at z
  cases z
  rw [n] at ho; cases ho
theorem Fr.newK (h : Fr K c σ W fs) {p : Addr} (n : W.H p = none) : c.kp p = none := by
  obtain ⟨ad, q⟩ := h
  cases z : c.kp p with
  | none => rfl
  | some o =>
    have := (q.kp p o z).1
    rw [n] at this; cases this
theorem Fr.zx {H' : Hp} (h : Fr K c σ W fs) (ex : Exs W.H H') {v : V} {z : Zx} (ok : ZxOk K W ⟨H', W.F⟩ v z) : RxOk K c ⟨H', W.F⟩ σ fs v z.rx := by
  cases z with
  | dt x => exact ok
  | fr x =>
    obtain ⟨p, e, n, nf, ct⟩ := ok
    exact ⟨p, e, h.new0 n, nf, ct, fun i b d ei => h.newS n ei, h.newK n⟩
end

/-! operations -/
abbrev AR2 := D → D → (Zx → Prop) → Prop
abbrev ARn := List D → (Zx → Prop) → Prop
def Op2 (K : PySem.W.Frag) (r : R2) (ar : AR2) : Prop := ∀ (W : Wd) (x y : V) (d e : D) (Q : VK) (Q' : Zx → Prop), (∀ b, W.F b → W.H b ≠ none) → Vw K W x d → Vw K W y e → ar d e Q' →
  (∀ v z H', Exs W.H H' → ZxOk K W ⟨H', W.F⟩ v z → Q' z → Q v H') → r x y W.H Q
def Opn (K : PySem.W.Frag) (r : List V → Hp → VK → Prop) (ar : ARn) : Prop := ∀ (W : Wd) (vs : List V) (ds : List D) (Q : VK) (Q' : Zx → Prop), (∀ b, W.F b → W.H b ≠ none) → Vws K W vs ds → ar ds Q' →
  (∀ v z H', Exs W.H H' → ZxOk K W ⟨H', W.F⟩ v z → Q' z → Q v H') → r vs W.H Q
def kZ (Q : Rx → Fs → Prop) (fs : Fs) (z : Zx) : Prop := Q z.rx fs
def kOp2 (ar : AR2) (Q : Rx → Fs → Prop) (x : Vx) (y : Vx) (fs2 : Fs) : Prop := match x.at fs2, y.at fs2 with
  | some d, some e => ar d e (kZ Q fs2)
  | _, _ => False
def kOp1 (ar : AR2) (b : AX) (E : XP) (Q : Rx → Fs → Prop) (x : Vx) (fs1 : Fs) : Prop := aV b E fs1 (kOp2 ar Q x)
def aOp (ar : AR2) (a b : AX) (E : XP) (fs : Fs) (Q : Rx → Fs → Prop) : Prop := aV a E fs (kOp1 ar b E Q)
def kCB (ar : ARn) (Q : Rx → Fs → Prop) (rs : List Vx) (fs1 : Fs) : Prop := match Vx.ats fs1 rs with
  | some ds => ar ds (kZ Q fs1)
  | none => False
def aCB (ar : ARn) (a : AVs) (E : XP) (fs : Fs) (Q : Rx → Fs → Prop) : Prop := a E fs (kCB ar Q)
def aVar (i : Nat) (_ : XP) (fs : Fs) (Q : Rx → Fs → Prop) : Prop := match fs[i]? with
  | some (.dat d) => Q (.dt d) fs
  | some (.own _ d) => Q (.sl i) fs
  | _ => False
def aC (d : D) (_ : XP) (fs : Fs) (Q : Rx → Fs → Prop) : Prop := Q (.dt d) fs
section
variable {K : PySem.W.Frag} {Ec : L2.St → XK}
theorem SndX.op {ta tb : TE} {a b : AX} {r : R2} {ar : AR2} (ha : SndX K Ec ta a) (hb : SndX K Ec tb b) (ho : Op2 K r ar) : SndX K Ec (tOp r ta tb) (aOp ar a b) := fun c σ W fs E Q Q' F A h k => by
  refine ha.v c σ W fs E _ _ F A h fun v r1 W1 fs1 l1 F1 k1 q1 => ?_
  refine hb.v c σ W1 fs1 E _ _ F1 A q1 fun u r2 W2 fs2 l2 F2 k2 q2 => ?_
  have q2' : (match r1.at fs2, r2.at fs2 with
    | some d, some e => ar d e fun z => Q' z.rx fs2
    | _, _ => False) := q2
  split at q2'
  · rename_i d e e1 e2
    refine ho W2 v u d e Q _ F2.dF (Vw.of F2 (k1.mono l2) e1) (Vw.of F2 k2 e2) q2' fun w z H' ex ok q => ?_
    exact k w z.rx ⟨H', W2.F⟩ fs2 ((l1.trans l2).trans (Le.grow ex F2.dF)) (F2.grow ex) (F2.zx ex ok) q
  · exact q2'.elim
theorem SndVs.cb {ta : TA} {a : AVs} {r : List V → Hp → VK → Prop} {ar : ARn} (ha : SndVs K Ec ta a) (ho : Opn K r ar) : SndX K Ec (tCB r ta) (aCB ar a) := fun c σ W fs E Q Q' F A h k => by
  refine ha c σ W fs E _ _ F A h fun vs rs W1 fs1 l1 F1 k1 q1 => ?_
  have q1' : (match Vx.ats fs1 rs with
    | some ds => ar ds fun z => Q' z.rx fs1
    | none => False) := q1
  split at q1'
  · rename_i ds e
    refine ho W1 vs ds Q _ F1.dF (Vws.of F1 k1 e) q1' fun w z H' ex ok q => ?_
    exact k w z.rx ⟨H', W1.F⟩ fs1 (l1.trans (Le.grow ex F1.dF)) (F1.grow ex) (F1.zx ex ok) q
  · exact q1'.elim
theorem snd_var {i : Nat} : SndX K Ec (tVar i) (aVar i) := fun c σ W fs E Q Q' F A h k => by
  have h' : (match fs[i]? with
    | some (.dat d) => Q' (.dt d) fs
    | some (.own _ d) => Q' (.sl i) fs
    | _ => False) := h
  obtain ⟨ad, q⟩ := id F
  split at h'
  · rename_i d e
    obtain ⟨v, e1, r⟩ := q.dat e
    exact ⟨v, e1, k v (.dt d) W fs (Le.refl W) F r h'⟩
  · rename_i p d e
    obtain ⟨e1, _, _⟩ := q.own e
    exact ⟨_, e1, k _ (.sl i) W fs (Le.refl W) F e1 h'⟩
  · exact h'.elim
theorem snd_c {v : V} {d : D} (h : ∀ W, Rep K W v d) : SndX K Ec (tC v) (aC d) := fun c σ W fs E Q Q' F A q k => k v (.dt d) W fs (Le.refl W) F (h W) q
end

section
variable {X : Cx} {Ec : L2.St → XK} {e e1 e2 : Expr} {es : List Expr} {t t1 t2 : TE} {ta : TA} {a a1 a2 : AX} {as : List AX} {pos p : Pos}
theorem ex_var (i : Nat) {x : Str} (hN : X.N[i]? = some x := by rfl) (hv : Vis X.env.scope x := by first | exact Or.inl rfl | exact Or.inr (Or.inl rfl) | exact Or.inr (Or.inr rfl)) (hd : (x == ("__debug__" : Str)) = false := by decide)
    (hcd : (x == ("__classdict__" : Str)) = false := by decide) : EX X Ec (.Name x pos) (aVar i) := EXt.x ⟨pe_var hN hv hd hcd, snd_var⟩
theorem ex_int {i j} : EX X Ec (.Constant (.int i) j pos) (aC (.int i)) := EXt.x ⟨pe_int, snd_c fun _ => .int i⟩
theorem ex_bl {i j} : EX X Ec (.Constant (.bool i) j pos) (aC (.bl i)) := EXt.x ⟨pe_bl, snd_c fun _ => .bl i⟩
theorem ex_non {j} : EX X Ec (.Constant .none j pos) (aC .non) := EXt.x ⟨pe_non, snd_c fun _ => .non⟩
theorem ex_str {x j} : EX X Ec (.Constant (.str x) j pos) (aC (.str x)) := EXt.x ⟨pe_str, snd_c fun _ => .str x⟩
theorem ex_op {op : Operator} {r : R2} {ar : AR2} (ho : OpR X (binaryOp op) r) (hs : Op2 X.K r ar) (h1 : EX X Ec e1 a1) (h2 : EX X Ec e2 a2) : EX X Ec (.BinOp e1 op e2 pos) (aOp ar a1 a2) := EXt.x ⟨pe_op ho h1.p h2.p, h1.s.op h2.s hs⟩
theorem ex_cmp {op : CmpOp} {r : R2} {ar : AR2} (ho : OpR X (compareOp op) r) (hs : Op2 X.K r ar) (h1 : EX X Ec e1 a1) (h2 : EX X Ec e2 a2) (hm : behindInMarks op e2 = false) : EX X Ec (.Compare e1 [op] [e2] pos) (aOp ar a1 a2) := EXt.x ⟨pe_cmpR ho h1.p h2.p hm, h1.s.op h2.s hs⟩
theorem ex_ix {r : R2} {ar : AR2} (ho : IxR X r) (hs : Op2 X.K r ar) (h1 : EX X Ec e1 a1) (h2 : EX X Ec e2 a2) (hx : PlainIx e2 := by intro _ _; rfl) : EX X Ec (.Subscript e1 e2 pos) (aOp ar a1 a2) := EXt.x ⟨pe_ix ho h1.p h2.p hx, h1.s.op h2.s hs⟩
theorem ex_cb {x : Str} {id : String} {r : List V → Hp → VK → Prop} {ar : ARn} (hc : CallR X (.builtin id) r) (hs : Opn X.K r ar) (hm : X.mg x = none) (hv : bootBuiltins x = some (.builtin id)) (ha : EVs X Ec (e :: es) (aVs as)) (hg : Gl X x := by rfl)
    (hn : x ≠ "__name__" := by decide) (hdb : (x == ("__debug__" : Str)) = false := by decide)
    (he : starEach (e :: es) X.env = (false, eval e X.env) :: starEach es X.env := by rfl) (hpl : (backTo pos (starEach es X.env)).any (·.1) = false := by rfl) : EX X Ec (.Call (.Name x p) (e :: es) [] pos) (aCB ar (aVs as)) := EXt.x ⟨pe_callB hc hg hm hv ha.p hn hdb he hpl, ha.s.cb hs⟩
theorem ex_cty {x : Str} {id : String} {r : List V → Hp → VK → Prop} {ar : ARn} (hc : CallR X (.type id) r) (hs : Opn X.K r ar) (hm : X.mg x = none) (hv : bootBuiltins x = some (.type id)) (ha : EVs X Ec (e :: es) (aVs as)) (hg : Gl X x := by rfl)
    (hn : x ≠ "__name__" := by decide) (hdb : (x == ("__debug__" : Str)) = false := by decide)
    (he : starEach (e :: es) X.env = (false, eval e X.env) :: starEach es X.env := by rfl) (hpl : (backTo pos (starEach es X.env)).any (·.1) = false := by rfl) : EX X Ec (.Call (.Name x p) (e :: es) [] pos) (aCB ar (aVs as)) := EXt.x ⟨pe_callTy hc hg hm hv ha.p hn hdb he hpl, ha.s.cb hs⟩
end

/-! displays -/
def kTup (Q : Rx → Fs → Prop) (ds : List D) (fs1 : Fs) : Prop := ds.length ≤ sizeLine ∧ Q (.dt (.tup ds)) fs1
def kLst (Q : Rx → Fs → Prop) (ds : List D) (fs1 : Fs) : Prop := ds.length ≤ sizeLine ∧ Q (.fr (.lst ds)) fs1
def aTup (a : AL) (E : XP) (fs : Fs) (Q : Rx → Fs → Prop) : Prop := a E fs (kTup Q)
def aLst (a : AL) (E : XP) (fs : Fs) (Q : Rx → Fs → Prop) : Prop := a E fs (kLst Q)
section
variable {X : Cx} {Ec : L2.St → XK} {e e1 e2 : Expr} {es : List Expr} {t t1 t2 : TE} {ta : TA} {a a1 a2 : AX} {al : AL} {pos p : Pos}
theorem ex_tup {k : Nat} (h : EL X Ec es al) : EX X Ec (.Tuple es k pos) (aTup al) := EXt.x ⟨pe_tup h.p, fun c σ W fs E Q Q' F A ha kk => by
  refine h.s c σ W fs E _ _ F A ha fun vs ds W1 fs1 l1 F1 r ⟨z, q⟩ => ⟨by rw [r.len]; exact z, fun p np => ?_⟩
  have ex : Exs W1.H (upd W1.H p (.tup vs)) := Exs.new np
  refine kk _ (.dt (.tup ds)) ⟨_, W1.F⟩ fs1 (l1.trans (Le.grow ex F1.dF)) (F1.grow ex) ?_ q
  exact .tup (.inl (.inl upd_same)) (r.mono (Le.grow ex F1.dF))⟩
theorem ex_lst (h : EL X Ec es al) : EX X Ec (.List es pos) (aLst al) := EXt.x ⟨pe_lst h.p, fun c σ W fs E Q Q' F A ha kk => by
  refine h.s c σ W fs E _ _ F A ha fun vs ds W1 fs1 l1 F1 r ⟨z, q⟩ => ⟨by rw [r.len]; exact z, fun p np => ?_⟩
  have ex : Exs W1.H (upd W1.H p (.lst vs)) := Exs.new np
  refine kk _ (.fr (.lst ds)) ⟨_, W1.F⟩ fs1 (l1.trans (Le.grow ex F1.dF)) (F1.grow ex) ?_ q
  exact F1.zx (z := .fr (.lst ds)) ex ⟨p, rfl, np, fun f => F1.dF p f np, vs, upd_same, r.mono (Le.grow ex F1.dF)⟩⟩
end

/-! tests -/
def aTru : D → Option Bool
  | .non => some false
  | .bl b => some b
  | .int i => some (i != 0)
  | .str x => some ((x.length : Int) != 0)
  | .tup xs => some (!xs.isEmpty)
  | .lst xs => some (!xs.isEmpty)
  | .dct ks _ => some (!ks.isEmpty)
  | _ => none
def szOk : D → Prop
  | .str x => x.length ≤ sizeLine
  | _ => True
def kTr (Q : Bool → Fs → Prop) (x : Vx) (fs1 : Fs) : Prop := match x.at fs1 with
  | some d => match aTru d with
    | some b => szOk d ∧ Q b fs1
    | none => False
  | none => False
def aTr (a : AX) (E : XP) (fs : Fs) (Q : Bool → Fs → Prop) : Prop := aV a E fs (kTr Q)
def kNot (Q : Bool → Fs → Prop) (b : Bool) (fs1 : Fs) : Prop := Q (!b) fs1
def aNotT (t : AT) (E : XP) (fs : Fs) (Q : Bool → Fs → Prop) : Prop := t E fs (kNot Q)
def kAnd (u : AT) (E : XP) (Q : Bool → Fs → Prop) (b : Bool) (fs1 : Fs) : Prop := if b = true then u E fs1 Q else Q false fs1
def aAndT (t u : AT) (E : XP) (fs : Fs) (Q : Bool → Fs → Prop) : Prop := t E fs (kAnd u E Q)
def kOr (u : AT) (E : XP) (Q : Bool → Fs → Prop) (b : Bool) (fs1 : Fs) : Prop := if b = true then Q true fs1 else u E fs1 Q
def aOrT (t u : AT) (E : XP) (fs : Fs) (Q : Bool → Fs → Prop) : Prop := t E fs (kOr u E Q)
theorem isEmpty_map {α β : Type} (f : α → β) (l : List α) : (l.map f).isEmpty = l.isEmpty := by cases l <;> rfl
theorem isEmpty_len {α β : Type} {l : List α} {m : List β} (h : l.length = m.length) : l.isEmpty = m.isEmpty := by
  cases l <;> cases m <;> first | rfl | (simp at h)
theorem tru_view {K : PySem.W.Frag} {W : Wd} {v : V} {d : D} {b : Bool} (h : Vw K W v d) (e : aTru d = some b) (z : szOk d) : TruV K v W.H b := by
  cases d with
  | non => cases h.non; cases e; rfl
  | bl x => cases h.bl; cases e; rfl
  | int x => cases h.int; cases e; rfl
  | str x => cases h.str; cases e; exact ⟨z, rfl⟩
  | tup xs =>
    obtain ⟨p, vs, rfl, q, r⟩ := h.tup
    cases e
    exact .inr (.inl ⟨vs, q, by rw [isEmpty_len r.len]⟩)
  | lst xs =>
    obtain ⟨p, vs, rfl, q, r⟩ := h.lst
    cases e
    exact .inl ⟨vs, q, by rw [isEmpty_len r.len]⟩
  | dct ks xs =>
    cases e
    rcases h with h | ⟨p, rfl, kvs, q, n, r⟩
    · cases h with
      | dct f q r => exact .inr (.inr ⟨_, q, by rw [isEmpty_map]⟩)
    · subst n
      exact .inr (.inr ⟨kvs, q, by rw [isEmpty_map]⟩)
  | _ => cases e
section
variable {X : Cx} {Ec : L2.St → XK} {e e1 e2 : Expr} {rest : List Expr} {t : TE} {tt tu : TT} {a : AX} {at1 at2 : AT} {pos p : Pos}
theorem et_val (h : EX X Ec e a) (he : ∀ whole, isTrue e X.env whole = (do let v ← whole; standAt e.pos; holding [v] (truthy v)) := by intro _; rfl) : ET X Ec e (aTr a) :=
  ETt.x ⟨pt_truth h.p he, fun c σ W fs E Q Q' F A ha k => by
    refine h.s.v c σ W fs E _ _ F A ha fun v r W1 fs1 l1 F1 k1 q1 => ?_
    have q1' : (match r.at fs1 with
      | some d => match aTru d with
        | some b => szOk d ∧ Q' b fs1
        | none => False
      | none => False) := q1
    split at q1'
    · rename_i d e1
      split at q1'
      · rename_i b e2
        exact ⟨b, tru_view (Vw.of F1 k1 e1) e2 q1'.1, k b W1 fs1 l1 F1 q1'.2⟩
      · exact q1'.elim
    · exact q1'.elim⟩
def kBl (Q : Bool → Fs → Prop) (r : Rx) (fs1 : Fs) : Prop := match r with
  | .dt (.bl b) => Q b fs1
  | _ => False
def aBl (a : AX) (E : XP) (fs : Fs) (Q : Bool → Fs → Prop) : Prop := a E fs (kBl Q)
theorem et_cmp {op : CmpOp} {r : R2} {ar : AR2} {a1 a2 : AX} (ho : OpR X (compareOp op) r) (hs : Op2 X.K r ar) (h1 : EX X Ec e1 a1) (h2 : EX X Ec e2 a2) (hm : behindInMarks op e2 = false) :
    ET X Ec (.Compare e1 [op] [e2] pos) (aBl (aOp ar a1 a2)) := ETt.x ⟨pt_cmpR ho h1.p h2.p hm, fun c σ W fs E Q Q' F A ha k => by
    refine (h1.s.op h2.s hs) c σ W fs E _ _ F A ha fun v r W1 fs1 l1 F1 k1 q1 => ?_
    cases r with
    | dt x => cases x with
      | bl b =>
        have k1' : Rep X.K W1 v (.bl b) := k1
        cases k1'
        exact ⟨b, rfl, k b W1 fs1 l1 F1 q1⟩
      | _ => exact q1.elim
    | _ => exact q1.elim⟩
theorem et_not (h : ET X Ec e at1) : ET X Ec (.UnaryOp .Not e pos) (aNotT at1) := ETt.x ⟨pt_not h.p, fun c σ W fs E Q Q' F A ha k =>
  h.s c σ W fs E _ _ F A ha fun b W1 fs1 l1 F1 q1 => k (!b) W1 fs1 l1 F1 q1⟩
theorem ew_and1 (h : ET X Ec e at1) : EW X Ec (.BoolOp .And [e] pos) at1 := EWt.x ⟨pw_and1 h.p, h.s⟩
theorem ew_or1 (h : ET X Ec e at1) : EW X Ec (.BoolOp .Or [e] pos) at1 := EWt.x ⟨pw_or1 h.p, h.s⟩
theorem ew_and (h : ET X Ec e at1) (h2 : EW X Ec (.BoolOp .And (e1 :: rest) pos) at2) : EW X Ec (.BoolOp .And (e :: e1 :: rest) pos) (aAndT at1 at2) := EWt.x ⟨pw_and h.p h2.p, fun c σ W fs E Q Q' F A ha k => by
  refine h.s c σ W fs E _ _ F A ha fun b W1 fs1 l1 F1 q1 => ?_
  cases b with
  | true => rw [if_pos rfl]; exact h2.s c σ W1 fs1 E _ _ F1 A q1 fun b W2 fs2 l2 F2 q2 => k b W2 fs2 (l1.trans l2) F2 q2
  | false => rw [if_neg Bool.false_ne_true]; exact k false W1 fs1 l1 F1 q1⟩
theorem ew_or (h : ET X Ec e at1) (h2 : EW X Ec (.BoolOp .Or (e1 :: rest) pos) at2) : EW X Ec (.BoolOp .Or (e :: e1 :: rest) pos) (aOrT at1 at2) := EWt.x ⟨pw_or h.p h2.p, fun c σ W fs E Q Q' F A ha k => by
  refine h.s c σ W fs E _ _ F A ha fun b W1 fs1 l1 F1 q1 => ?_
  cases b with
  | false => rw [if_neg Bool.false_ne_true]; exact h2.s c σ W1 fs1 E _ _ F1 A q1 fun b W2 fs2 l2 F2 q2 => k b W2 fs2 (l1.trans l2) F2 q2
  | true => rw [if_pos rfl]; exact k true W1 fs1 l1 F1 q1⟩
theorem et_w (h : EW X Ec e at1) : ET X Ec e at1 := ETt.x ⟨h.p.pt, h.s⟩
/-- values by tests: a if c else b; x and y, x or y, not x -/
def kIfE (a b : AX) (E : XP) (Q : Rx → Fs → Prop) (k : Bool) (fs1 : Fs) : Prop := if k = true then a E fs1 Q else b E fs1 Q
def aIfE (t : AT) (a b : AX) (E : XP) (fs : Fs) (Q : Rx → Fs → Prop) : Prop := t E fs (kIfE a b E Q)
theorem ex_if {c e1 e2 : Expr} {a1 a2 : AX} (h : ET X Ec c at1) (h1 : EX X Ec e1 a1) (h2 : EX X Ec e2 a2) : EX X Ec (.IfExp c e1 e2 pos) (aIfE at1 a1 a2) := EXt.x ⟨pe_ifExp h.p h1.p h2.p, fun c σ W fs E Q Q' F A ha k => by
  refine h.s c σ W fs E _ _ F A ha fun b W1 fs1 l1 F1 q1 => ?_
  cases b with
  | true => rw [if_pos rfl]; exact h1.s c σ W1 fs1 E _ _ F1 A q1 fun v r W2 fs2 l2 F2 r2 q2 => k v r W2 fs2 (l1.trans l2) F2 r2 q2
  | false => rw [if_neg Bool.false_ne_true]; exact h2.s c σ W1 fs1 E _ _ F1 A q1 fun v r W2 fs2 l2 F2 r2 q2 => k v r W2 fs2 (l1.trans l2) F2 r2 q2⟩
def kAndV (b : AX) (E : XP) (Q : Rx → Fs → Prop) (x : Vx) (fs1 : Fs) : Prop := match x with
  | .dt d => match aTru d with
    | some k => szOk d ∧ if k = true then b E fs1 Q else Q (.dt d) fs1
    | none => False
  | .sl _ => False
def aAndV (a b : AX) (E : XP) (fs : Fs) (Q : Rx → Fs → Prop) : Prop := aV a E fs (kAndV b E Q)
def kOrV (b : AX) (E : XP) (Q : Rx → Fs → Prop) (x : Vx) (fs1 : Fs) : Prop := match x with
  | .dt d => match aTru d with
    | some k => szOk d ∧ if k = true then Q (.dt d) fs1 else b E fs1 Q
    | none => False
  | .sl _ => False
def aOrV (a b : AX) (E : XP) (fs : Fs) (Q : Rx → Fs → Prop) : Prop := aV a E fs (kOrV b E Q)
def kNotV (Q : Rx → Fs → Prop) (x : Vx) (fs1 : Fs) : Prop := match x.at fs1 with
  | some d => match aTru d with
    | some b => szOk d ∧ Q (.dt (.bl (!b))) fs1
    | none => False
  | none => False
def aNotV (a : AX) (E : XP) (fs : Fs) (Q : Rx → Fs → Prop) : Prop := aV a E fs (kNotV Q)
theorem ex_one {op} (h : EX X Ec e a) : EX X Ec (.BoolOp op [e] pos) a := EXt.x ⟨pe_one h.p, h.s⟩
theorem ex_and {b : AX} (h : EX X Ec e a) (h2 : EX X Ec (.BoolOp .And (e1 :: rest) pos) b) : EX X Ec (.BoolOp .And (e :: e1 :: rest) pos) (aAndV a b) := EXt.x ⟨pe_andT h.p h2.p, fun c σ W fs E Q Q' F A ha k => by
  refine h.s.v c σ W fs E _ _ F A ha fun v r W1 fs1 l1 F1 k1 q1 => ?_
  cases r with
  | sl i => exact q1.elim
  | dt d =>
    have q1' : (match aTru d with
      | some k => szOk d ∧ (if k = true then b E fs1 Q' else Q' (.dt d) fs1)
      | none => False) := q1
    split at q1'
    · rename_i kk e2
      refine ⟨kk, tru_view (.inl k1.1) e2 q1'.1, ?_⟩
      cases kk with
      | true => rw [if_pos rfl]; exact h2.s c σ W1 fs1 E _ _ F1 A q1'.2 fun v r W2 fs2 l2 F2 r2 q2 => k v r W2 fs2 (l1.trans l2) F2 r2 q2
      | false => rw [if_neg Bool.false_ne_true]; exact k v (.dt d) W1 fs1 l1 F1 k1.1 q1'.2
    · exact q1'.elim⟩
theorem ex_or {b : AX} (h : EX X Ec e a) (h2 : EX X Ec (.BoolOp .Or (e1 :: rest) pos) b) : EX X Ec (.BoolOp .Or (e :: e1 :: rest) pos) (aOrV a b) := EXt.x ⟨pe_orT h.p h2.p, fun c σ W fs E Q Q' F A ha k => by
  refine h.s.v c σ W fs E _ _ F A ha fun v r W1 fs1 l1 F1 k1 q1 => ?_
  cases r with
  | sl i => exact q1.elim
  | dt d =>
    have q1' : (match aTru d with
      | some k => szOk d ∧ (if k = true then Q' (.dt d) fs1 else b E fs1 Q')
      | none => False) := q1
    split at q1'
    · rename_i kk e2
      refine ⟨kk, tru_view (.inl k1.1) e2 q1'.1, ?_⟩
      cases kk with
      | false => rw [if_neg Bool.false_ne_true]; exact h2.s c σ W1 fs1 E _ _ F1 A q1'.2 fun v r W2 fs2 l2 F2 r2 q2 => k v r W2 fs2 (l1.trans l2) F2 r2 q2
      | true => rw [if_pos rfl]; exact k v (.dt d) W1 fs1 l1 F1 k1.1 q1'.2
    · exact q1'.elim⟩
theorem ex_not (h : EX X Ec e a) : EX X Ec (.UnaryOp .Not e pos) (aNotV a) := EXt.x ⟨pe_notT h.p, fun c σ W fs E Q Q' F A ha k => by
    refine h.s.v c σ W fs E _ _ F A ha fun v r W1 fs1 l1 F1 k1 q1 => ?_
    have q1' : (match r.at fs1 with
      | some d => match aTru d with
        | some b => szOk d ∧ Q' (.dt (.bl (!b))) fs1
        | none => False
      | none => False) := q1
    split at q1'
    · rename_i d e1
      split at q1'
      · rename_i b e2
        exact ⟨b, tru_view (Vw.of F1 k1 e1) e2 q1'.1, k _ (.dt (.bl (!b))) W1 fs1 l1 F1 (.bl _) q1'.2⟩
      · exact q1'.elim
    · exact q1'.elim⟩
end
end G

namespace G
open PySem PySem.Spec PyProof.Rows L2

/-! statements -/
def aSeq (a b : AS) (E : XP) (A : AEnds) (fs : Fs) : Prop := a E { A with nx := b E A } fs
def aNext (_ : XP) (A : AEnds) (fs : Fs) : Prop := A.nx fs
def kDrop (A : AEnds) (_ : Rx) (fs1 : Fs) : Prop := A.nx fs1
def aDrop (a : AX) (E : XP) (A : AEnds) (fs : Fs) : Prop := a E fs (kDrop A)
def kIf (a b : AS) (E : XP) (A : AEnds) (k : Bool) (fs1 : Fs) : Prop := if k = true then a E A fs1 else b E A fs1
def aIf (t : AT) (a b : AS) (E : XP) (A : AEnds) (fs : Fs) : Prop := t E fs (kIf a b E A)
def kRet (A : AEnds) (r : Rx) (fs1 : Fs) : Prop := match r with
  | .dt d => A.rt (.dat d) fs1
  | .fr d => A.rt (.own false d) fs1
  | .sl i => match fs1[i]? with
    | some (.own false d) => A.rt (.own false d) (fs1.set i .un)
    | some (.dat d) => A.rt (.dat d) fs1
    | _ => False
def aRet (a : AX) (E : XP) (A : AEnds) (fs : Fs) : Prop := a E fs (kRet A)
/-- as aRet, what comes is frozen -/
def kRetD (A : AEnds) (d : D) (fs1 : Fs) : Prop := A.rt (.dat d) fs1
def aRetD (a : AX) (E : XP) (A : AEnds) (fs : Fs) : Prop := aD a E fs (kRetD A)
def aRetN (_ : XP) (A : AEnds) (fs : Fs) : Prop := A.rt (.dat .non) fs
def aBreak (_ : XP) (A : AEnds) (fs : Fs) : Prop := A.bk fs
def aCont (_ : XP) (A : AEnds) (fs : Fs) : Prop := A.ct fs
def np : Sl → Prop
  | .un => True
  | .dat _ => True
  | .own p _ => p = false
  | .tp _ _ => True
theorem np_un : np .un = True := rfl
theorem np_dat {d : D} : np (.dat d) = True := rfl
theorem np_own {p : Bool} {d : D} : np (.own p d) = (p = false) := rfl
def free? (fs : Fs) (i : Nat) : Prop := match fs[i]? with
  | some s => np s
  | none => True
/-- x = e: what comes is data from then on -/
def kSet (i : Nat) (A : AEnds) (d : D) (fs1 : Fs) : Prop := free? fs1 i ∧ A.nx (fs1.set i (.dat d))
def aSet (i : Nat) (a : AX) (E : XP) (A : AEnds) (fs : Fs) : Prop := aD a E fs (kSet i A)
/-- x = e: a fresh thing is the name's own from then on -/
def kSetO (i : Nat) (A : AEnds) (r : Rx) (fs1 : Fs) : Prop := match r with
  | .dt d => free? fs1 i ∧ A.nx (fs1.set i (.dat d))
  | .fr d => free? fs1 i ∧ A.nx (fs1.set i (.own false d))
  | .sl _ => False
def aSetO (i : Nat) (a : AX) (E : XP) (A : AEnds) (fs : Fs) : Prop := a E fs (kSetO i A)
section
variable {K : PySem.W.Frag} {Ec : L2.St → XK} {c : Cn} {σ : L2.St} {W : Wd} {fs : Fs}
theorem free_np {i : Nat} (h : free? fs i) : ∀ d, fs[i]? ≠ some (.own true d) := fun d e => by
  unfold free? at h
  rw [e] at h
  exact absurd (show true = false from h) (by decide)
theorem Fr.setD {i : Nat} {v : V} {d : D} (h : Fr K c σ W fs) (f : free? fs i) (r : Rep K W v d) : Fr K c (σ.set i (some v)) W (fs.set i (.dat d)) := by
  obtain ⟨ad, q⟩ := h
  exact ⟨_, q.put (a := 0) (free_np f) ⟨v, rfl, r⟩ fun _ _ z => by cases z⟩
theorem Fr.setO {i : Nat} {v : V} {d : D} (h : Fr K c σ W fs) (f : free? fs i) (r : RxOk K c W σ fs v (.fr d)) : Fr K c (σ.set i (some v)) W (fs.set i (.own false d)) := by
  obtain ⟨p, rfl, h0, nf, ct, no, hk⟩ := r
  obtain ⟨ad, q⟩ := h
  refine ⟨_, q.put (a := p) (free_np f) ⟨rfl, nf, ct⟩ fun b x z => ?_⟩
  cases z
  exact ⟨rfl, h0, fun j b e _ ej z => no j b e ej (z ▸ (q.own ej).1), hk⟩
theorem Fr.un {i : Nat} (h : Fr K c σ W fs) (f : free? fs i) : Fr K c σ W (fs.set i .un) := by
  obtain ⟨ad, q⟩ := h
  exact ⟨ad, q.put0 (free_np f) trivial fun _ _ z => by cases z⟩
end
section
variable {X : Cx} {Ec : L2.St → XK} {e e1 e2 : Expr} {st : Stmt} {rest sts sts2 : List Stmt} {t t1 t2 : TE} {tt : TT} {ts us : TS} {a b : AS} {ax : AX} {at1 : AT} {pos p : Pos}
theorem ss_nil : SXs X Ec [] aNext := SXst.x ⟨pss_nil, fun c σ W fs E D A F _ h k => k.nx σ W fs (Le.refl W) F h⟩
theorem ss_one (h : SX X Ec st a) : SXs X Ec [st] a := SXst.x ⟨pss_one h.p, h.s⟩
theorem ss_cons (h : SX X Ec st a) (h2 : SXs X Ec rest b) : SXs X Ec (st :: rest) (aSeq a b) := SXst.x ⟨pss_cons h.p h2.p, fun c σ W fs E D A F ad ha k =>
  h.s c σ W fs E { D with nx := cSndS X.K Ec b D } { A with nx := b E A } F ad ha ⟨fun σ' W' fs' l F' q => h2.s c σ' W' fs' E D A F' ad q (k.mono l), fun v r σ' W' fs' l F' => k.rt v r σ' W' fs' l F', fun σ' W' fs' l F' => k.bk σ' W' fs' l F', fun σ' W' fs' l F' => k.ct σ' W' fs' l F'⟩⟩
theorem sx_expr (h : EX X Ec e ax) (hs : swapsWith e none pos.line X.env = pure false := by rfl) : SX X Ec (.Expr e pos) (aDrop ax) := SXt.x ⟨ps_expr h.p hs, fun c σ W fs E D A F ad ha k =>
  h.s c σ W fs E _ _ F ad ha fun v r W1 fs1 l1 F1 _ q => k.nx σ W1 fs1 l1 F1 q⟩
theorem sx_if (h : ET X Ec e at1) (ha : SXs X Ec sts a) (hb : SXs X Ec sts2 b) : SX X Ec (.If e sts sts2 pos) (aIf at1 a b) := SXt.x ⟨ps_if h.p ha.p hb.p, fun c σ W fs E D A F ad q k => by
  refine h.s c σ W fs E _ _ F ad q fun kk W1 fs1 l1 F1 q1 => ?_
  cases kk with
  | true => rw [if_pos rfl]; exact ha.s c σ W1 fs1 E D A F1 ad q1 (k.mono l1)
  | false => rw [if_neg Bool.false_ne_true]; exact hb.s c σ W1 fs1 E D A F1 ad q1 (k.mono l1)⟩
theorem sx_pass : SX X Ec (.Pass pos) aNext := SXt.x ⟨ps_pass, fun c σ W fs E D A F _ h k => k.nx σ W fs (Le.refl W) F h⟩
theorem sx_break : SX X Ec (.Break pos) aBreak := SXt.x ⟨ps_break, fun c σ W fs E D A F _ h k => k.bk σ W fs (Le.refl W) F h⟩
theorem sx_cont : SX X Ec (.Continue pos) aCont := SXt.x ⟨ps_continue, fun c σ W fs E D A F _ h k => k.ct σ W fs (Le.refl W) F h⟩
theorem sx_ret (h : EX X Ec e ax) : SX X Ec (.Return (some e) pos) (aRet ax) := SXt.x ⟨ps_ret h.p, fun c σ W fs E D A F ad ha k => by
  refine h.s c σ W fs E _ _ F ad ha fun v r W1 fs1 l1 F1 r1 q1 => ?_
  cases r with
  | dt d => exact k.rt v (.dat d) σ W1 fs1 l1 F1 r1 q1
  | fr d =>
    obtain ⟨p, e, h0, nf, ct, _, hk⟩ := r1
    exact k.rt v (.own false d) σ W1 fs1 l1 F1 ⟨p, e, h0, nf, ct, hk⟩ q1
  | sl i =>
    have q1' : (match fs1[i]? with
      | some (.own false d) => A.rt (.own false d) (fs1.set i .un)
      | some (.dat d) => A.rt (.dat d) fs1
      | _ => False) := q1
    split at q1'
    · rename_i d ei
      have hv : σ[i]? = some (some v) := r1
      have F2 : Fr X.K c σ W1 (fs1.set i .un) := F1.un (by unfold free?; rw [ei]; trivial)
      refine k.rt v (.own false d) σ W1 _ l1 F2 ?_ q1'
      obtain ⟨adr, z⟩ := F1
      obtain ⟨e1, nf, ct⟩ := z.own ei
      rw [hv] at e1
      cases e1
      refine ⟨_, rfl, z.loc i d ei, nf, ct, ?_⟩
      cases zz : c.kp (adr i) with
      | none => rfl
      | some o => exact absurd rfl ((z.kp _ o zz).2.2 i _ _ ei)
    · rename_i d ei
      have hv : σ[i]? = some (some v) := r1
      obtain ⟨adr, z⟩ := id F1
      obtain ⟨w, e1, r2⟩ := z.dat ei
      rw [hv] at e1
      cases e1
      exact k.rt v (.dat d) σ W1 fs1 l1 F1 r2 q1'
    · exact q1'.elim⟩
theorem sx_retD (h : EX X Ec e ax) : SX X Ec (.Return (some e) pos) (aRetD ax) := SXt.x ⟨ps_ret h.p, fun c σ W fs E D A F ad ha k => by
  refine h.s.dd c σ W fs E _ _ F ad ha fun v r W1 fs1 l1 F1 r1 q1 => ?_
  exact k.rt v (.dat r) σ W1 fs1 l1 F1 r1 q1⟩
theorem sx_retN : SX X Ec (.Return none pos) aRetN := SXt.x ⟨ps_retN, fun c σ W fs E D A F ad ha k => k.rt .non (.dat .non) σ W fs (Le.refl W) F .non ha⟩
theorem sx_set (i : Nat) {x : Str} {pos' : Pos} (hN : X.N.Nodup) (h : EX X Ec e ax) (hi : X.N[i]? = some x := by rfl) (hx : Loc X.env.scope x := by first | exact .inl rfl | exact .inr rfl) (hs : swapsWith e (some (.Name x pos')) pos.line X.env = pure false := by rfl)
    (hf : X.fn x = true ∨ X.env.scope.names.lookup x = some .local := by first | exact .inl rfl | exact .inr rfl | assumption) : SX X Ec (.Assign [.Name x pos'] e pos) (aSet i ax) := SXt.x ⟨ps_set hN hi hx h.p hs hf, fun c σ W fs E D A F ad ha k => by
  refine h.s.dd c σ W fs E _ _ F ad ha fun v d W1 fs1 l1 F1 r1 q1 => ?_
  exact k.nx _ W1 _ l1 (F1.setD q1.1 r1) q1.2⟩
theorem sx_setO (i : Nat) {x : Str} {pos' : Pos} (hN : X.N.Nodup) (h : EX X Ec e ax) (hi : X.N[i]? = some x := by rfl) (hx : Loc X.env.scope x := by first | exact .inl rfl | exact .inr rfl) (hs : swapsWith e (some (.Name x pos')) pos.line X.env = pure false := by rfl)
    (hf : X.fn x = true ∨ X.env.scope.names.lookup x = some .local := by first | exact .inl rfl | exact .inr rfl | assumption) : SX X Ec (.Assign [.Name x pos'] e pos) (aSetO i ax) := SXt.x ⟨ps_set hN hi hx h.p hs hf, fun c σ W fs E D A F ad ha k => by
  refine h.s c σ W fs E _ _ F ad ha fun v r W1 fs1 l1 F1 r1 q1 => ?_
  cases r with
  | dt d => exact k.nx _ W1 _ l1 (F1.setD q1.1 r1) q1.2
  | fr d => exact k.nx _ W1 _ l1 (F1.setO q1.1 r1) q1.2
  | sl i => exact q1.elim⟩
end

/-! while -/
def whileN (t : AT) (b : AS) (E : XP) (A : AEnds) : Nat → Fs → Prop
  | 0, _ => False
  | n + 1, fs => t E fs fun k fs1 => if k = true then b E { A with nx := whileN t b E A n, ct := whileN t b E A n, bk := A.nx } fs1 else A.nx fs1
def aWhile (t : AT) (b : AS) (E : XP) (A : AEnds) (fs : Fs) : Prop := ∃ n, whileN t b E A n fs
/-- a turn: on to R, or behind the loop -/
def kWh (b : AS) (E : XP) (A : AEnds) (R : Fs → Prop) (k : Bool) (fs1 : Fs) : Prop := if k = true then b E { A with nx := R, ct := R, bk := A.nx } fs1 else A.nx fs1
section
variable {X : Cx} {Ec : L2.St → XK} {e : Expr} {sts : List Stmt} {tt : TT} {ts : TS} {b : AS} {at1 : AT} {pos : Pos}
theorem sx_while (hp : PassesOwn (model X.prog X.w) X.A X.env X.xe) (h : ET X Ec e at1) (hb : SXs X Ec sts b) : SX X Ec (.While e sts [] pos) (aWhile at1 b) := SXt.x ⟨ps_while hp h.p hb.p, fun c σ W fs E D A F ad ha k => by
  obtain ⟨n0, h0⟩ := ha
  refine ⟨fun m σ' H' => ∃ W' fs', W'.H = H' ∧ Le W W' ∧ Fr X.K c σ' W' fs' ∧ whileN at1 b E A m fs', ⟨n0, W, fs, rfl, Le.refl W, F, h0⟩, ?_⟩
  rintro m σ1 H1 ⟨W1, fs1, rfl, l1, F1, q1⟩
  cases m with
  | zero => exact q1.elim
  | succ n =>
    refine h.s c σ1 W1 fs1 E _ _ F1 ad q1 fun kk W2 fs2 l2 F2 q2 => ?_
    cases kk with
    | false =>
      rw [if_neg Bool.false_ne_true]
      exact k.nx σ1 W2 fs2 (l1.trans l2) F2 q2
    | true =>
      rw [if_pos rfl]
      refine ⟨fun σ' H' => ∃ W' fs', W'.H = H' ∧ Le W W' ∧ Fr X.K c σ' W' fs' ∧ whileN at1 b E A n fs', fun σ' H' hN => ⟨n, Nat.lt_succ_self n, hN⟩, ?_⟩
      refine hb.s c σ1 W2 fs2 E _ _ F2 ad q2 ⟨fun σ' W' fs' l F' q => ⟨W', fs', rfl, (l1.trans l2).trans l, F', q⟩, fun v r σ' W' fs' l F' => k.rt v r σ' W' fs' ((l1.trans l2).trans l) F', fun σ' W' fs' l F' => k.nx σ' W' fs' ((l1.trans l2).trans l) F', fun σ' W' fs' l F' q => ⟨W', fs', rfl, (l1.trans l2).trans l, F', q⟩⟩⟩
end
/-- by an invariant and a measure: R is what a turn is to reach -/
theorem while_by {t : AT} {b : AS} {E : XP} {A : AEnds} {fs : Fs} (I : Nat → Fs → Prop) (h0 : ∃ m, I m fs)
    (step : ∀ (R : Fs → Prop) m fs, (∀ m' fs', m' < m → I m' fs' → R fs') → I m fs → t E fs (kWh b E A R)) : aWhile t b E A fs := by
  have key : ∀ (N m : Nat) (fs : Fs), m ≤ N → I m fs → whileN t b E A (N + 1) fs := by
    intro N
    induction N with
    | zero => exact fun m fs hm hi => step _ m fs (fun m' fs' hl _ => absurd hl (by omega)) hi
    | succ N ih => exact fun m fs hm hi => step _ m fs (fun m' fs' hl hi' => ih m' fs' (by omega) hi') hi
  obtain ⟨m, hi⟩ := h0
  exact ⟨m + 1, key m m fs (Nat.le_refl m) hi⟩
end G

namespace G
open PySem PySem.Spec PyProof.Rows L2

/-! targets -/
abbrev AG := D → Fs → (Fs → Prop) → Prop
def agName (i : Nat) (d : D) (fs : Fs) (Q : Fs → Prop) : Prop := free? fs i ∧ Q (fs.set i (.dat d))
def agTup (gs : List AG) (d : D) (fs : Fs) (Q : Fs → Prop) : Prop := match d with
  | .tup ds => ds.length = gs.length ∧ go gs ds fs Q
  | _ => False
where go : List AG → List D → Fs → (Fs → Prop) → Prop
  | [], _, fs, Q => Q fs
  | _ :: _, [], _, _ => False
  | g :: gs, d :: ds, fs, Q => g d fs fun fs1 => go gs ds fs1 Q
def SndG (K : PySem.W.Frag) (g : TG) (a : AG) : Prop :=
  ∀ (c : Cn) (σ : L2.St) (W : Wd) (fs : Fs) (v : V) (d : D) (Q : L2.St → Hp → Prop) (Q' : Fs → Prop), Fr K c σ W fs → Rep K W v d → a d fs Q' → (∀ σ' fs', Fr K c σ' W fs' → Q' fs' → Q σ' W.H) → g v σ W.H Q
def SndGs (K : PySem.W.Frag) (g : TGs) (a : List AG) : Prop :=
  ∀ (c : Cn) (σ : L2.St) (W : Wd) (fs : Fs) (vs : List V) (ds : List D) (Q : L2.St → Hp → Prop) (Q' : Fs → Prop), Fr K c σ W fs → Reps K W vs ds → ds.length = a.length → agTup.go a ds fs Q' → (∀ σ' fs', Fr K c σ' W fs' → Q' fs' → Q σ' W.H) → g vs σ W.H Q
def cSndG (K : PySem.W.Frag) (a : AG) : TG := fun v σ H Q => ∃ (c : Cn) (W : Wd) (fs : Fs) (d : D) (Q' : Fs → Prop), W.H = H ∧ Fr K c σ W fs ∧ Rep K W v d ∧ a d fs Q' ∧ ∀ σ' fs', Fr K c σ' W fs' → Q' fs' → Q σ' W.H
theorem cSndG.s {K : PySem.W.Frag} {a : AG} : SndG K (cSndG K a) a := fun c σ W fs v d Q Q' F r h k => ⟨c, W, fs, d, Q', rfl, F, r, h, k⟩
def cSndGs (K : PySem.W.Frag) (a : List AG) : TGs := fun vs σ H Q => ∃ (c : Cn) (W : Wd) (fs : Fs) (ds : List D) (Q' : Fs → Prop), W.H = H ∧ Fr K c σ W fs ∧ Reps K W vs ds ∧ ds.length = a.length ∧ agTup.go a ds fs Q' ∧ ∀ σ' fs', Fr K c σ' W fs' → Q' fs' → Q σ' W.H
theorem cSndGs.s {K : PySem.W.Frag} {a : List AG} : SndGs K (cSndGs K a) a := fun c σ W fs vs ds Q Q' F r hl h k => ⟨c, W, fs, ds, Q', rfl, F, r, hl, h, k⟩
structure GXt (X : Cx) (e : Expr) (g : TG) (a : AG) : Prop where
  p : PG X e g
  s : SndG X.K g a
structure GXst (X : Cx) (es : List Expr) (g : TGs) (a : List AG) : Prop where
  p : PGs X es g
  s : SndGs X.K g a
structure GX (X : Cx) (e : Expr) (a : AG) : Prop where
  p : PG X e (cSndG X.K a)
structure GXs (X : Cx) (es : List Expr) (a : List AG) : Prop where
  p : PGs X es (cSndGs X.K a)
theorem GX.s {X : Cx} {e : Expr} {a : AG} (_ : GX X e a) : SndG X.K (cSndG X.K a) a := cSndG.s
theorem GXs.s {X : Cx} {e : List Expr} {a : List AG} (_ : GXs X e a) : SndGs X.K (cSndGs X.K a) a := cSndGs.s
theorem GXt.x {X : Cx} {e : Expr} {g : TG} {a : AG} (h : GXt X e g a) : GX X e a := ⟨⟨by
  obtain ⟨p, q⟩ := h
  exact fun pins s σ H v u Q I r ⟨c, W, fs, d, Q', e, F, rr, h, k⟩ => by subst e; exact p.run pins s σ W.H v u Q I r (q c σ W fs v d Q Q' F rr h k)⟩⟩
theorem GXst.x {X : Cx} {es : List Expr} {g : TGs} {a : List AG} (h : GXst X es g a) : GXs X es a := ⟨⟨by
  obtain ⟨p, q⟩ := h
  exact fun pins s σ H vs us Q I r ⟨c, W, fs, ds, Q', e, F, rr, hl, h, k⟩ => by subst e; exact p.run pins s σ W.H vs us Q I r (q c σ W fs vs ds Q Q' F rr hl h k)⟩⟩
section
variable {X : Cx} {e : Expr} {es : List Expr} {g : TG} {gs : TGs} {a : AG} {as : List AG} {pos : Pos}
theorem gx_name (i : Nat) {x : Str} (hN : X.N.Nodup) (hi : X.N[i]? = some x := by rfl) (hx : Loc X.env.scope x := by first | exact .inl rfl | exact .inr rfl) (hf : X.fn x = true ∨ X.env.scope.names.lookup x = some .local := by first | exact .inl rfl | exact .inr rfl | assumption) : GX X (.Name x pos) (agName i) :=
  GXt.x ⟨pg_name hN hi hx hf, fun c σ W fs v d Q Q' F r h k => k _ _ (F.setD h.1 r) h.2⟩
theorem gxs_nil : GXs X [] [] := GXst.x ⟨pgs_nil, fun c σ W fs vs ds Q Q' F r hl h k => by
  cases r with
  | nil => exact ⟨rfl, k σ fs F h⟩
  | cons _ _ => simp at hl⟩
theorem gxs_cons (h1 : GX X e a) (h2 : GXs X es as) (hs : (assignEach (e :: es) X.env).map (·.2) = assign e X.env :: (assignEach es X.env).map (·.2) := by rfl) : GXs X (e :: es) (a :: as) := GXst.x ⟨pgs_cons h1.p h2.p hs, fun c σ W fs vs ds Q Q' F r hl h k => by
  cases r with
  | nil => simp at hl
  | cons r rr =>
    refine ⟨_, _, rfl, ?_⟩
    refine h1.s c σ W fs _ _ _ _ F r h fun σ1 fs1 F1 q1 => ?_
    exact h2.s c σ1 W fs1 _ _ Q Q' F1 rr (by simpa using hl) q1 k⟩
theorem gx_tup {k n : Nat} (hc : X.calm = true) (h : GXs X es as) (hla : as.length = n := by rfl) (hn : (assignEach es X.env).length = n := by rfl) (hst : (assignEach es X.env).findIdx? (·.1) = none := by rfl) : GX X (.Tuple es k pos) (agTup as) := GXt.x ⟨pg_tup hc h.p hn hst, fun c σ W fs v d Q Q' F r hh kk => by
  cases d with
  | tup ds =>
    cases r with
    | tup hq rr => exact ⟨_, _, rfl, hq, by rw [rr.len, hh.1, hla], h.s c σ W fs _ ds Q Q' F rr hh.1 hh.2 kk⟩
  | _ => exact hh.elim⟩
end

/-! what is walked -/
abbrev AI := XP → Fs → (List D → Fs → Prop) → Prop
/-- the walk J from the world W yields the ds -/
structure Wk (K : PySem.W.Frag) (J : It) (W : Wd) (ds : List D) : Prop where
  go : ∀ (i : Nat) (W2 : Wd), Le W W2 → i < ds.length → J.go i W2.H
  stop : ∀ (i : Nat) (W2 : Wd), Le W W2 → i = ds.length → J.stop i W2.H
  yld : ∀ (i : Nat) (W2 : Wd) (x : V) (H' : Hp), Le W W2 → (∀ b, W2.F b → W2.H b ≠ none) → J.yld i W2.H x H' → i < ds.length → ∃ d, ds[i]? = some d ∧ Exs W2.H H' ∧ Rep K ⟨H', W2.F⟩ x d
def SndI (K : PySem.W.Frag) (Ec : L2.St → XK) (w : TI) (a : AI) : Prop :=
  ∀ (c : Cn) (σ : L2.St) (W : Wd) (fs : Fs) (E : XP) (R : It → Hp → Prop) (Q' : List D → Fs → Prop), Fr K c σ W fs → AdX K c Ec E → a E fs Q' →
    (∀ J ds W' fs', Le W W' → Fr K c σ W' fs' → Wk K J W' ds → Q' ds fs' → R J W'.H) → w σ W.H R
def cSndI (K : PySem.W.Frag) (Ec : L2.St → XK) (a : AI) : TI := fun σ H R => ∃ (c : Cn) (W : Wd) (fs : Fs) (E : XP) (Q' : List D → Fs → Prop), W.H = H ∧ Fr K c σ W fs ∧ AdX K c Ec E ∧ a E fs Q' ∧ ∀ J ds W' fs', Le W W' → Fr K c σ W' fs' → Wk K J W' ds → Q' ds fs' → R J W'.H
theorem cSndI.s {K : PySem.W.Frag} {Ec : L2.St → XK} {a : AI} : SndI K Ec (cSndI K Ec a) a := fun c σ W fs E R Q' F A h k => ⟨c, W, fs, E, Q', rfl, F, A, h, k⟩
structure IXt (X : Cx) (Ec : L2.St → XK) (tg iter : Expr) (w : TI) (a : AI) : Prop where
  p : PI X tg iter w
  s : SndI X.K Ec w a
structure IX (X : Cx) (Ec : L2.St → XK) (tg iter : Expr) (a : AI) : Prop where
  p : PI X tg iter (cSndI X.K Ec a)
theorem IX.s {X : Cx} {Ec : L2.St → XK} {tg iter : Expr} {a : AI} (_ : IX X Ec tg iter a) : SndI X.K Ec (cSndI X.K Ec a) a := cSndI.s
theorem IXt.x {X : Cx} {Ec : L2.St → XK} {tg iter : Expr} {w : TI} {a : AI} (h : IXt X Ec tg iter w a) : IX X Ec tg iter a := ⟨⟨by
  obtain ⟨p, q⟩ := h
  exact fun pins s σ H R I ⟨c, W, fs, E, Q', e, F, A, h, k⟩ => by subst e; exact p.run pins s σ W.H R I (q c σ W fs E R Q' F A h k)⟩⟩
/-- of a list, of a tuple -/
def aIL (a : AX) : AI := fun E fs Q => aD a E fs fun d fs1 => match d with
  | .lst ds => Q ds fs1
  | _ => False
def aIT (a : AX) : AI := fun E fs Q => aD a E fs fun d fs1 => match d with
  | .tup ds => Q ds fs1
  | _ => False
def aIS (a : AX) : AI := fun E fs Q => aD a E fs fun d fs1 => match d with
  | .str x => Q (x.cps.toList.map fun c => .str ⟨#[c]⟩) fs1
  | _ => False
def rgD (lo : Int) (n : Nat) : List D := (List.range n).map fun i => .int (lo + (i : Nat))
def kIR1 (Q : List D → Fs → Prop) (rs : List Vx) (fs1 : Fs) : Prop := match Vx.ats fs1 rs with
  | some [.int j] => -(2 ^ 62) ≤ j ∧ j < 2 ^ 62 ∧ Q (rgD 0 j.toNat) fs1
  | _ => False
def aIR1 (a : AVs) (E : XP) (fs : Fs) (Q : List D → Fs → Prop) : Prop := a E fs (kIR1 Q)
def kIR2 (Q : List D → Fs → Prop) (rs : List Vx) (fs1 : Fs) : Prop := match Vx.ats fs1 rs with
  | some [.int i, .int j] => (-(2 ^ 62) ≤ i ∧ i < 2 ^ 62 ∧ -(2 ^ 62) ≤ j ∧ j < 2 ^ 62) ∧ Q (rgD i (j - i).toNat) fs1
  | _ => False
def aIR2 (a : AVs) (E : XP) (fs : Fs) (Q : List D → Fs → Prop) : Prop := a E fs (kIR2 Q)
theorem rep_lst {K : PySem.W.Frag} {W : Wd} {v : V} {ds : List D} (h : Rep K W v (.lst ds)) : ∃ a vs, v = .ref a ∧ (∀ W2, Le W W2 → SqL K W2.H a vs) ∧ Reps K W vs ds := by
  cases h with
  | lst f h r => exact ⟨_, _, rfl, fun W2 l => .inl (l.rdF f h), r⟩
  | lstK h r => exact ⟨_, _, rfl, fun W2 l => .inr h, r⟩
section
variable {X : Cx} {Ec : L2.St → XK} {tg e : Expr} {es : List Expr} {t : TE} {a : AX} {pos p : Pos}
theorem ix_list (h : EX X Ec e a) : IX X Ec tg e (aIL a) := IXt.x ⟨pi_list h.p, fun c σ W fs E R Q' F A ha k => by
  refine h.s.dd c σ W fs E _ _ F A ha fun v d W1 fs1 l1 F1 r1 q1 => ?_
  cases d with
  | lst ds =>
    obtain ⟨p, vs, rfl, st, r⟩ := rep_lst r1
    refine ⟨p, rfl, ⟨vs, st W1 (Le.refl W1)⟩, k _ ds W1 fs1 l1 F1 ⟨fun i W2 l hi => ?_, fun i W2 l hi => ⟨vs, st W2 l, by rw [r.len]; exact Nat.le_of_eq hi.symm⟩, fun i W2 x H' l dF y hi => ?_⟩ q1⟩
    · have hv : i < vs.length := by rw [r.len]; exact hi
      exact ⟨vs, vs[i], st W2 l, List.getElem?_eq_getElem hv⟩
    · obtain ⟨rfl, y⟩ := y
      obtain ⟨d, e1, e2⟩ := r.get' (y vs (st W2 l))
      exact ⟨d, e1, Exs.refl _, e2.mono l⟩
  | _ => exact q1.elim⟩
theorem ix_tup (h : EX X Ec e a) : IX X Ec tg e (aIT a) := IXt.x ⟨pi_tup h.p, fun c σ W fs E R Q' F A ha k => by
  refine h.s.dd c σ W fs E _ _ F A ha fun v d W1 fs1 l1 F1 r1 q1 => ?_
  cases d with
  | tup ds =>
    cases r1 with
    | @tup p vs _ hq r =>
    have st : ∀ W2, Le W1 W2 → SqT X.K W2.H p vs := fun W2 l => l.sqT hq
    refine ⟨p, rfl, ⟨vs, hq⟩, k _ ds W1 fs1 l1 F1 ⟨fun i W2 l hi => ?_, fun i W2 l hi => ⟨vs, st W2 l, by rw [r.len]; exact Nat.le_of_eq hi.symm⟩, fun i W2 x H' l dF y hi => ?_⟩ q1⟩
    · have hv : i < vs.length := by rw [r.len]; exact hi
      exact ⟨vs, vs[i], st W2 l, List.getElem?_eq_getElem hv⟩
    · obtain ⟨rfl, y⟩ := y
      obtain ⟨d, e1, e2⟩ := r.get' (y vs (st W2 l))
      exact ⟨d, e1, Exs.refl _, e2.mono l⟩
  | _ => exact q1.elim⟩
theorem ix_str (h : EX X Ec e a) : IX X Ec tg e (aIS a) := IXt.x ⟨pi_str h.p, fun c σ W fs E R Q' F A ha k => by
  refine h.s.dd c σ W fs E _ _ F A ha fun v d W1 fs1 l1 F1 r1 q1 => ?_
  cases d with
  | str x =>
    cases r1
    have hl : (x.cps.toList.map fun c => D.str ⟨#[c]⟩).length = x.cps.size := by simp
    refine ⟨x, rfl, k _ _ W1 fs1 l1 F1 ⟨fun i W2 l hi => by rw [hl] at hi; exact hi, fun i W2 l hi => by rw [hl] at hi; exact Nat.le_of_eq hi.symm, fun i W2 v H' l dF y hi => ?_⟩ q1⟩
    obtain ⟨rfl, c, e1, rfl⟩ := y
    refine ⟨.str ⟨#[c]⟩, ?_, Exs.refl _, .str _⟩
    rw [List.getElem?_map, Array.getElem?_toList, e1]
    rfl
  | _ => exact q1.elim⟩
theorem wk_range {K : PySem.W.Frag} {W : Wd} {lo : Int} {n : Nat} : Wk K (Itr lo n) W (rgD lo n) := by
  have hl : (rgD lo n).length = n := by simp [rgD]
  refine ⟨fun i W2 l hi => by rw [hl] at hi; exact hi, fun i W2 l hi => by rw [hl] at hi; exact Nat.le_of_eq hi.symm, fun i W2 v H' l dF y hi => ?_⟩
  obtain ⟨rfl, rfl⟩ := y
  rw [hl] at hi
  refine ⟨.int (lo + (i : Nat)), ?_, Exs.refl _, .int _⟩
  simp [rgD, hi]
theorem Vws.one {K : PySem.W.Frag} {W : Wd} : ∀ {vs : List V} {d : D}, Vws K W vs [d] → ∃ v, vs = [v] ∧ Vw K W v d
  | [v], d, h => ⟨v, rfl, h.1⟩
  | [], _, h => h.elim
  | _ :: _ :: _, _, h => h.2.elim
theorem Vws.two {K : PySem.W.Frag} {W : Wd} : ∀ {vs : List V} {d e : D}, Vws K W vs [d, e] → ∃ v u, vs = [v, u] ∧ Vw K W v d ∧ Vw K W u e
  | [v, u], d, e, h => ⟨v, u, rfl, h.1, h.2.1⟩
  | [], _, _, h => h.elim
  | [_], _, _, h => h.2.elim
  | _ :: _ :: _ :: _, _, _, h => h.2.2.elim
theorem ix_range1 {as : AVs} (h : EVs X Ec [e] as) (hm : X.mg "range" = none) (hg : Gl X "range" := by rfl) (hs : starEach [e] X.env = [(false, eval e X.env)] := by rfl) : IX X Ec tg (.Call (.Name "range" p) [e] [] pos) (aIR1 as) := IXt.x ⟨pi_range1 hg hm h.p hs, fun c σ W fs E R Q' F A ha k => by
  refine h.s c σ W fs E _ _ F A ha fun vs rs W1 fs1 l1 F1 k1 q1 => ?_
  have q1' : (match Vx.ats fs1 rs with
    | some [.int j] => -(2 ^ 62) ≤ j ∧ j < 2 ^ 62 ∧ Q' (rgD 0 j.toNat) fs1
    | _ => False) := q1
  split at q1'
  · rename_i j e1
    obtain ⟨v, rfl, hv⟩ := (Vws.of F1 k1 e1).one
    cases hv.int
    exact ⟨j, rfl, q1'.1, q1'.2.1, k _ _ W1 fs1 l1 F1 wk_range q1'.2.2⟩
  · exact q1'.elim⟩
theorem ix_range2 {e2 : Expr} {as : AVs} (h : EVs X Ec [e, e2] as) (hm : X.mg "range" = none) (hg : Gl X "range" := by rfl) (hs : starEach [e, e2] X.env = [(false, eval e X.env), (false, eval e2 X.env)] := by rfl) (hs2 : starEach [e2] X.env = [(false, eval e2 X.env)] := by rfl) : IX X Ec tg (.Call (.Name "range" p) [e, e2] [] pos) (aIR2 as) := IXt.x ⟨pi_range2 hg hm h.p hs hs2, fun c σ W fs E R Q' F A ha k => by
  refine h.s c σ W fs E _ _ F A ha fun vs rs W1 fs1 l1 F1 k1 q1 => ?_
  have q1' : (match Vx.ats fs1 rs with
    | some [.int i, .int j] => (-(2 ^ 62) ≤ i ∧ i < 2 ^ 62 ∧ -(2 ^ 62) ≤ j ∧ j < 2 ^ 62) ∧ Q' (rgD i (j - i).toNat) fs1
    | _ => False) := q1
  split at q1'
  · rename_i i j e1
    obtain ⟨v, u, rfl, hv, hu⟩ := (Vws.of F1 k1 e1).two
    cases hv.int
    cases hu.int
    exact ⟨i, j, rfl, q1'.1, k _ _ W1 fs1 l1 F1 wk_range q1'.2⟩
  · exact q1'.elim⟩
end

/-! for -/
def kFor (b : AS) (E : XP) (A : AEnds) (R : Fs → Prop) (fs1 : Fs) : Prop := b E { A with nx := R, ct := R, bk := A.nx } fs1
def forL (g : AG) (b : AS) (E : XP) (A : AEnds) : List D → Fs → Prop
  | [], fs => A.nx fs
  | d :: ds, fs => g d fs (kFor b E A (forL g b E A ds))
def aFor (i : AI) (g : AG) (b : AS) (E : XP) (A : AEnds) (fs : Fs) : Prop := i E fs (forL g b E A)
section
variable {X : Cx} {Ec : L2.St → XK} {tg it : Expr} {sts : List Stmt} {w : TI} {g : TG} {ts : TS} {ai : AI} {ag : AG} {b : AS} {pos : Pos}
theorem sx_for (hp : PassesOwn (model X.prog X.w) X.A X.env X.xe) (hc : X.calm = true) (hi : IX X Ec tg it ai) (hg : GX X tg ag) (hb : SXs X Ec sts b)
    (hs : ∀ x, foldedSetIterable it X.env x = pure x := by intro _; rfl) : SX X Ec (.For tg it sts [] pos) (aFor ai ag b) := SXt.x ⟨ps_for hp hc hi.p hg.p hb.p hs, fun c σ W fs E D A F ad ha k => by
  refine hi.s c σ W fs E _ _ F ad ha fun J ds W1 fs1 l1 F1 wk q1 => ?_
  refine ⟨fun i m σ' H' => m = ds.length - i ∧ i ≤ ds.length ∧ ∃ W' fs', W'.H = H' ∧ Le W1 W' ∧ Fr X.K c σ' W' fs' ∧ forL ag b E A (ds.drop i) fs', ⟨ds.length, rfl, Nat.zero_le _, W1, fs1, rfl, Le.refl W1, F1, q1⟩, ?_⟩
  rintro i m σ2 H2 ⟨rfl, hle, W2, fs2, rfl, l2, F2, q2⟩
  by_cases hlt : i < ds.length
  · refine .inr ⟨wk.go i W2 l2 hlt, fun σ' H' => ∃ W' fs', W'.H = H' ∧ Le W1 W' ∧ Fr X.K c σ' W' fs' ∧ forL ag b E A (ds.drop (i + 1)) fs', fun σ' H' hN => ⟨ds.length - (i + 1), by omega, rfl, hlt, hN⟩, fun x H' y => ?_⟩
    obtain ⟨d, e1, ex, r⟩ := wk.yld i W2 x H' l2 F2.dF y hlt
    have hd : ds.drop i = d :: ds.drop (i + 1) := by
      rw [List.drop_eq_getElem_cons hlt]
      rw [List.getElem?_eq_getElem hlt] at e1
      rw [Option.some.inj e1]
    rw [hd] at q2
    have l3 : Le W2 ⟨H', W2.F⟩ := Le.grow ex F2.dF
    refine hg.s c σ2 ⟨H', W2.F⟩ fs2 x d _ _ (F2.grow ex) r q2 fun σ3 fs3 F3 q3 => ?_
    exact hb.s c σ3 ⟨H', W2.F⟩ fs3 E _ _ F3 ad q3 ⟨fun σ' W' fs' l F' q => ⟨W', fs', rfl, (l2.trans l3).trans l, F', q⟩, fun v r σ' W' fs' l F' => k.rt v r σ' W' fs' (((l1.trans l2).trans l3).trans l) F', fun σ' W' fs' l F' => k.nx σ' W' fs' (((l1.trans l2).trans l3).trans l) F', fun σ' W' fs' l F' q => ⟨W', fs', rfl, (l2.trans l3).trans l, F', q⟩⟩
  · have hd : ds.drop i = [] := List.drop_eq_nil_of_le (by omega)
    rw [hd] at q2
    exact .inl ⟨wk.stop i W2 l2 (by omega), k.nx σ2 W2 fs2 (l1.trans l2) F2 q2⟩⟩
end

/-! a comprehension's target: it stores into the block's own slots vs alone -/
def SndGO (K : PySem.W.Frag) (vs : List Nat) (g : TG) (a : AG) : Prop :=
  ∀ (c : Cn) (σ : L2.St) (W : Wd) (fs : Fs) (v : V) (d : D) (Q : L2.St → Hp → Prop) (Q' : Fs → Prop), Fr K c σ W fs → Rep K W v d → a d fs Q' → (∀ σ' fs', wipe σ' vs = wipe σ vs → Fr K c σ' W fs' → Q' fs' → Q σ' W.H) → g v σ W.H Q
def SndGOs (K : PySem.W.Frag) (vs : List Nat) (g : TGs) (a : List AG) : Prop :=
  ∀ (c : Cn) (σ : L2.St) (W : Wd) (fs : Fs) (us : List V) (ds : List D) (Q : L2.St → Hp → Prop) (Q' : Fs → Prop), Fr K c σ W fs → Reps K W us ds → ds.length = a.length → agTup.go a ds fs Q' → (∀ σ' fs', wipe σ' vs = wipe σ vs → Fr K c σ' W fs' → Q' fs' → Q σ' W.H) → g us σ W.H Q
def cSndGO (K : PySem.W.Frag) (vs : List Nat) (a : AG) : TG := fun v σ H Q => ∃ (c : Cn) (W : Wd) (fs : Fs) (d : D) (Q' : Fs → Prop), W.H = H ∧ Fr K c σ W fs ∧ Rep K W v d ∧ a d fs Q' ∧ ∀ σ' fs', wipe σ' vs = wipe σ vs → Fr K c σ' W fs' → Q' fs' → Q σ' W.H
theorem cSndGO.s {K : PySem.W.Frag} {vs : List Nat} {a : AG} : SndGO K vs (cSndGO K vs a) a := fun c σ W fs v d Q Q' F r h k => ⟨c, W, fs, d, Q', rfl, F, r, h, k⟩
def cSndGOs (K : PySem.W.Frag) (vs : List Nat) (a : List AG) : TGs := fun us σ H Q => ∃ (c : Cn) (W : Wd) (fs : Fs) (ds : List D) (Q' : Fs → Prop), W.H = H ∧ Fr K c σ W fs ∧ Reps K W us ds ∧ ds.length = a.length ∧ agTup.go a ds fs Q' ∧ ∀ σ' fs', wipe σ' vs = wipe σ vs → Fr K c σ' W fs' → Q' fs' → Q σ' W.H
theorem cSndGOs.s {K : PySem.W.Frag} {vs : List Nat} {a : List AG} : SndGOs K vs (cSndGOs K vs a) a := fun c σ W fs us ds Q Q' F r hl h k => ⟨c, W, fs, ds, Q', rfl, F, r, hl, h, k⟩
structure GO (X : Cx) (vs : List Nat) (e : Expr) (a : AG) : Prop where
  p : PG X e (cSndGO X.K vs a)
structure GOs (X : Cx) (vs : List Nat) (es : List Expr) (a : List AG) : Prop where
  p : PGs X es (cSndGOs X.K vs a)
theorem go_mk {X : Cx} {vs : List Nat} {e : Expr} {g : TG} {a : AG} (p : PG X e g) (q : SndGO X.K vs g a) : GO X vs e a := ⟨⟨fun pins s σ H v u Q I r ⟨c, W, fs, d, Q', e, F, rr, h, k⟩ => by subst e; exact p.run pins s σ W.H v u Q I r (q c σ W fs v d Q Q' F rr h k)⟩⟩
theorem gos_mk {X : Cx} {vs : List Nat} {es : List Expr} {g : TGs} {a : List AG} (p : PGs X es g) (q : SndGOs X.K vs g a) : GOs X vs es a := ⟨⟨fun pins s σ H us vus Q I r ⟨c, W, fs, ds, Q', e, F, rr, hl, h, k⟩ => by subst e; exact p.run pins s σ W.H us vus Q I r (q c σ W fs us ds Q Q' F rr hl h k)⟩⟩
theorem wipe_set {σ : L2.St} {i : Nat} {x : Option V} {vs : List Nat} (h : i ∈ vs) : wipe (σ.set i x) vs = wipe σ vs := by
  have key : ∀ (τ : L2.St) (ws : List Nat) (j : Nat), j ∈ ws → (wipe τ ws)[j]? = if j < τ.length then some none else none := by
    intro τ ws j
    induction ws with
    | nil => intro h; cases h
    | cons w ws ih =>
      intro h
      unfold wipe
      by_cases hw : w = j
      · subst hw
        by_cases hl : w < τ.length
        · rw [List.getElem?_set_self (by rw [wipe_length]; exact hl), if_pos hl]
        · rw [List.getElem?_eq_none (by rw [List.length_set, wipe_length]; omega), if_neg hl]
      · rw [List.getElem?_set_ne hw]
        rcases List.mem_cons.mp h with z | z
        · exact absurd z.symm hw
        · exact ih z
  apply List.ext_getElem?
  intro j
  by_cases hj : j ∈ vs
  · rw [key _ _ _ hj, key _ _ _ hj, List.length_set]
  · have hij : i ≠ j := fun e => hj (e ▸ h)
    rw [wipe_out hj, wipe_out hj, List.getElem?_set_ne hij]
section
variable {X : Cx} {vs : List Nat} {e : Expr} {es : List Expr} {a : AG} {as : List AG} {pos : Pos}
theorem go_name (i : Nat) {x : Str} (hm : i ∈ vs) (hN : X.N.Nodup) (hi : X.N[i]? = some x := by rfl) (hx : Loc X.env.scope x := by first | exact .inl rfl | exact .inr rfl) (hf : X.fn x = true ∨ X.env.scope.names.lookup x = some .local := by first | exact .inl rfl | exact .inr rfl | assumption) : GO X vs (.Name x pos) (agName i) :=
  go_mk (pg_name hN hi hx hf) fun c σ W fs v d Q Q' F r h k => k _ _ (wipe_set hm) (F.setD h.1 r) h.2
theorem gos_nil : GOs X vs [] [] := gos_mk pgs_nil fun c σ W fs us ds Q Q' F r hl h k => by
  cases r with
  | nil => exact ⟨rfl, k σ fs rfl F h⟩
  | cons _ _ => simp at hl
theorem gos_cons (h1 : GO X vs e a) (h2 : GOs X vs es as) (hs : (assignEach (e :: es) X.env).map (·.2) = assign e X.env :: (assignEach es X.env).map (·.2) := by rfl) : GOs X vs (e :: es) (a :: as) := gos_mk (pgs_cons h1.p h2.p hs) fun c σ W fs us ds Q Q' F r hl h k => by
  cases r with
  | nil => simp at hl
  | cons r rr =>
    refine ⟨_, _, rfl, ?_⟩
    refine cSndGO.s c σ W fs _ _ _ _ F r h fun σ1 fs1 e1 F1 q1 => ?_
    exact cSndGOs.s c σ1 W fs1 _ _ Q Q' F1 rr (by simpa using hl) q1 fun σ2 fs2 e2 => k σ2 fs2 (e2.trans e1)
theorem go_tup {k n : Nat} (hc : X.calm = true) (h : GOs X vs es as) (hla : as.length = n := by rfl) (hn : (assignEach es X.env).length = n := by rfl) (hst : (assignEach es X.env).findIdx? (·.1) = none := by rfl) : GO X vs (.Tuple es k pos) (agTup as) := go_mk (pg_tup hc h.p hn hst) fun c σ W fs v d Q Q' F r hh kk => by
  cases d with
  | tup ds =>
    cases r with
    | tup hq rr => exact ⟨_, _, rfl, hq, by rw [rr.len, hh.1, hla], cSndGOs.s c σ W fs _ ds Q Q' F rr hh.1 hh.2 kk⟩
  | _ => exact hh.elim
end

/-! list comprehensions -/
def clr (fs : Fs) : List Nat → Fs
  | [] => fs
  | v :: vs => (clr fs vs).set v .un
def frees? (fs : Fs) : List Nat → Prop
  | [] => True
  | v :: vs => free? fs v ∧ frees? fs vs
theorem frees_np {fs : Fs} : ∀ {vs : List Nat}, frees? fs vs → ∀ v ∈ vs, ∀ d, fs[v]? ≠ some (.own true d)
  | [], _, v, m, _, _ => by cases m
  | w :: vs, h, v, m, d, e => by
    rcases List.mem_cons.mp m with z | z
    · subst z; exact free_np h.1 d e
    · exact frees_np h.2 v z d e
theorem frees_of {fs : Fs} : ∀ {vs : List Nat}, (∀ v ∈ vs, ∀ d, fs[v]? ≠ some (.own true d)) → frees? fs vs
  | [], _ => trivial
  | w :: vs, h => ⟨by
    unfold free?
    split
    · rename_i d e
      cases d with
      | own p d => cases p with
        | false => rfl
        | true => exact (h w List.mem_cons_self d e).elim
      | _ => trivial
    · trivial, frees_of fun v m => h v (List.mem_cons_of_mem _ m)⟩
def kC3 (vs : List Nat) (R : List D → Fs → (List D → Fs → Prop) → Prop) (acc : List D) (Q : List D → Fs → Prop) (y : D) (fs3 : Fs) : Prop := acc.length < sizeLine ∧ frees? fs3 vs ∧ R (acc ++ [y]) (clr fs3 vs) Q
def kC2 (e : AX) (vs : List Nat) (R : List D → Fs → (List D → Fs → Prop) → Prop) (acc : List D) (Q : List D → Fs → Prop) (k : Bool) (fs2 : Fs) : Prop := if k = true then aD e X0 fs2 (kC3 vs R acc Q) else frees? fs2 vs ∧ R acc (clr fs2 vs) Q
def kC1 (t : AT) (e : AX) (vs : List Nat) (R : List D → Fs → (List D → Fs → Prop) → Prop) (acc : List D) (Q : List D → Fs → Prop) (fs1 : Fs) : Prop := t X0 fs1 (kC2 e vs R acc Q)
def compL (g : AG) (t : AT) (e : AX) (vs : List Nat) : List D → List D → Fs → (List D → Fs → Prop) → Prop
  | [], acc, fs, Q => Q acc fs
  | d :: ds, acc, fs, Q => g d fs (kC1 t e vs (compL g t e vs ds) acc Q)
def kFr (Q : Rx → Fs → Prop) (ys : List D) (fs2 : Fs) : Prop := Q (.fr (.lst ys)) fs2
def kComp (g : AG) (t : AT) (e : AX) (vs : List Nat) (Q : Rx → Fs → Prop) (ds : List D) (fs1 : Fs) : Prop := frees? fs1 vs ∧ compL g t e vs ds [] (clr fs1 vs) (kFr Q)
def aComp (i : AI) (g : AG) (t : AT) (e : AX) (vs : List Nat) (E : XP) (fs : Fs) (Q : Rx → Fs → Prop) : Prop := i E fs (kComp g t e vs Q)
def aYes (_ : XP) (fs : Fs) (Q : Bool → Fs → Prop) : Prop := Q true fs
section
variable {K : PySem.W.Frag} {Ec : L2.St → XK} {c : Cn} {σ : L2.St} {W : Wd} {fs : Fs}
theorem clr_get {fs : Fs} {i : Nat} {s : Sl} (hs : s ≠ .un) : ∀ {vs : List Nat}, (clr fs vs)[i]? = some s → fs[i]? = some s ∧ i ∉ vs
  | [], h => ⟨h, by simp⟩
  | v :: vs, h => by
    unfold clr at h
    by_cases hi : v = i
    · subst hi
      by_cases hv : v < (clr fs vs).length
      · rw [List.getElem?_set_self hv] at h; cases h; exact absurd rfl hs
      · rw [List.getElem?_eq_none (by simpa using hv)] at h; cases h
    · rw [List.getElem?_set_ne hi] at h
      obtain ⟨h1, h2⟩ := clr_get hs h
      exact ⟨h1, by simp only [List.mem_cons, not_or]; exact ⟨fun e => hi e.symm, h2⟩⟩
theorem clr_len {fs : Fs} : ∀ {vs : List Nat}, (clr fs vs).length = fs.length
  | [] => rfl
  | v :: vs => by unfold clr; rw [List.length_set, clr_len]
theorem clr_keep {fs : Fs} {i : Nat} : ∀ {vs : List Nat}, i ∉ vs → (clr fs vs)[i]? = fs[i]?
  | [], _ => rfl
  | v :: vs, h => by
    unfold clr
    rw [List.getElem?_set_ne (fun e => h (by rw [e]; exact List.mem_cons_self)), clr_keep fun m => h (List.mem_cons_of_mem _ m)]
/-- the block's own slots don't matter -/
theorem Fr.clr {σ' : L2.St} {vs : List Nat} (h : Fr K c σ W fs) (np : frees? fs vs) (e : wipe σ' vs = wipe σ vs) : Fr K c σ' W (clr fs vs) := by
  obtain ⟨ad, q⟩ := h
  have el : σ'.length = σ.length := by
    have := congrArg List.length e
    rw [wipe_length, wipe_length] at this
    exact this
  have es : ∀ i, i ∉ vs → σ'[i]? = σ[i]? := fun i hi => by
    have := congrArg (·[i]?) e
    simpa only [wipe_out hi] using this
  have own : ∀ {i : Nat} {p : Bool} {d : D}, (G.clr fs vs)[i]? = some (.own p d) → fs[i]? = some (.own p d) ∧ i ∉ vs := fun h => clr_get (by intro z; cases z) h
  refine ⟨ad, by rw [el, clr_len]; exact q.len, q.le, fun i s ei => ?_, fun i j p r d e' e1 e2 ea => q.sep i j p r d e' (own e1).1 (own e2).1 ea, q.keep, q.kF, q.nF, q.dF, fun i d e1 => q.loc i d (own e1).1, fun i d e1 => q.brw i d (own e1).1, fun i a e1 => ?_, fun b o e1 => let ⟨z1, z2, z3⟩ := q.kp b o e1; ⟨z1, z2, fun i p d ei => z3 i p d (own ei).1⟩⟩
  · cases s with
    | un => trivial
    | tp ds e =>
      obtain ⟨h1, h2⟩ := clr_get (by intro z; cases z) ei
      exact (q.slot i _ h1).elim
    | dat d =>
      obtain ⟨h1, h2⟩ := clr_get (by intro z; cases z) ei
      rw [es i h2]
      exact q.slot i _ h1
    | own p d =>
      obtain ⟨h1, h2⟩ := own ei
      rw [es i h2]
      exact q.slot i _ h1
  · obtain ⟨z1, z2, d, z3⟩ := q.pin i a e1
    refine ⟨z1, z2, d, ?_⟩
    have hi : i ∉ vs := fun m => frees_np np i m d z3
    rw [clr_keep hi]
    exact z3
theorem wipe_idem (σ : L2.St) (vs : List Nat) : wipe (wipe σ vs) vs = wipe σ vs := by
  apply List.ext_getElem?
  intro i
  by_cases hi : i ∈ vs
  · have key : ∀ (τ : L2.St) (ws : List Nat), i ∈ ws → (wipe τ ws)[i]? = if i < τ.length then some none else none := by
      intro τ ws
      induction ws with
      | nil => intro h; cases h
      | cons w ws ih =>
        intro h
        unfold wipe
        by_cases hw : w = i
        · subst hw
          by_cases hl : w < τ.length
          · rw [List.getElem?_set_self (by rw [wipe_length]; exact hl), if_pos hl]
          · rw [List.getElem?_eq_none (by rw [List.length_set, wipe_length]; omega), if_neg hl]
        · rw [List.getElem?_set_ne hw]
          rcases List.mem_cons.mp h with z | z
          · exact absurd z.symm hw
          · exact ih z
    rw [key _ _ hi, key _ _ hi, wipe_length]
  · rw [wipe_out hi]
end
theorem clr_idem (fs : Fs) (vs : List Nat) : clr (clr fs vs) vs = clr fs vs := by
  apply List.ext_getElem?
  intro i
  by_cases hi : i ∈ vs
  · have key : ∀ (τ : Fs) (ws : List Nat), i ∈ ws → (clr τ ws)[i]? = if i < τ.length then some .un else none := by
      intro τ ws
      induction ws with
      | nil => intro h; cases h
      | cons w ws ih =>
        intro h
        unfold clr
        by_cases hw : w = i
        · subst hw
          by_cases hl : w < τ.length
          · rw [List.getElem?_set_self (by rw [clr_len]; exact hl), if_pos hl]
          · rw [List.getElem?_eq_none (by rw [List.length_set, clr_len]; omega), if_neg hl]
        · rw [List.getElem?_set_ne hw]
          rcases List.mem_cons.mp h with z | z
          · exact absurd z.symm hw
          · exact ih z
    rw [key _ _ hi, key _ _ hi, clr_len]
  · rw [clr_keep hi]
section
variable {X : Cx} {Ec : L2.St → XK} {elt tg it : Expr} {ifs : List Expr} {scope : Scope} {w : TI} {g : TG} {tt : TT} {te : TE} {ai : AI} {ag : AG} {at1 : AT} {ae : AX} {pos : Pos}
structure ETst (X : Cx) (ifs : List Expr) (t : TT) (a : AT) : Prop where
  p : PTs X ifs t
  s : SndT X.K (fun _ => E0) t a
structure ETs (X : Cx) (ifs : List Expr) (a : AT) : Prop where
  p : PTs X ifs (cSndT X.K (fun _ => E0) a)
theorem ETs.s {X : Cx} {ifs : List Expr} {a : AT} (_ : ETs X ifs a) : SndT X.K (fun _ => E0) (cSndT X.K (fun _ => E0) a) a := cSndT.s
theorem ETst.x {X : Cx} {ifs : List Expr} {t : TT} {a : AT} (h : ETst X ifs t a) : ETs X ifs a := ⟨⟨by
  obtain ⟨p, q⟩ := h
  exact fun pins s σ H Q I ⟨c, W, fs, E, Q', e, F, A, h, k⟩ => by subst e; exact p.run pins s σ W.H Q I (q c σ W fs E Q Q' F A h k)⟩⟩
theorem ets_nil : ETs X [] aYes := ETst.x ⟨pts_nil, fun c σ W fs E Q Q' F A h k => k true W fs (Le.refl W) F h⟩
theorem ets_one {e : Expr} {a : AT} (h : ET X (fun _ => E0) e a) : ETs X [e] a := ETst.x ⟨pts_one h.p, h.s⟩
theorem snd_lc {K : PySem.W.Frag} {vs : List Nat} (hi : SndI K Ec w ai) (hg : SndGO K vs g ag)
    (ht : SndT K (fun _ => E0) tt at1) (he : SndX K (fun _ => E0) te ae) : SndX K Ec (tLc w g tt te vs) (aComp ai ag at1 ae vs) := fun c σ W fs E Q Q' F A ha k => by
  refine hi c σ W fs E _ _ F A ha fun J ds W1 fs1 l1 F1 wk ⟨np1, q1⟩ => ?_
  intro D hD
  have exD : Exs W1.H (upd W1.H D (.lst [])) := Exs.new hD
  have hD0 : c.W0.H D = none := F1.new0 hD
  have hDS : ∀ (i : Nat) (b : Bool) (d : G.D), fs1[i]? = some (.own b d) → σ[i]? ≠ some (some (.ref D)) := fun i b d e => F1.newS hD e
  have F1c : Fr K c σ W1 (clr fs1 vs) := F1.clr np1 rfl
  have hDk : c.kp D = none := F1.newK hD
  let cD : List V → Cn := fun acc => { c with kp := fun b => if b = D then some (.lst acc) else c.kp b }
  have toD : ∀ {σ' : L2.St} {W' : Wd} {fs' : Fs} {acc : List V}, Fr K c σ' W' fs' → W'.H D = some (.lst acc) → ¬ W'.F D → (∀ (i : Nat) (b : Bool) (d : G.D), fs'[i]? = some (.own b d) → σ'[i]? ≠ some (some (.ref D))) → Fr K (cD acc) σ' W' fs' := by
    intro σ' W' fs' acc F' eD nf no
    obtain ⟨ad, q⟩ := F'
    refine ⟨ad, q.len, q.le, q.slot, q.sep, q.keep, q.kF, q.nF, q.dF, q.loc, q.brw, q.pin, fun b o e => ?_⟩
    have e' : (if b = D then some (HO.lst acc) else c.kp b) = some o := e
    by_cases hb : b = D
    · subst hb
      rw [if_pos rfl] at e'
      cases e'
      exact ⟨eD, nf, fun i p d ei z => no i p d ei (z ▸ (q.own ei).1)⟩
    · rw [if_neg hb] at e'
      exact q.kp b o e'
  have ofD : ∀ {σ' : L2.St} {W' : Wd} {fs' : Fs} {acc : List V}, Fr K (cD acc) σ' W' fs' → Fr K c σ' W' fs' ∧ W'.H D = some (.lst acc) ∧ ¬ W'.F D ∧ (∀ (i : Nat) (b : Bool) (d : G.D), fs'[i]? = some (.own b d) → σ'[i]? ≠ some (some (.ref D))) := by
    intro σ' W' fs' acc F'
    obtain ⟨ad, q⟩ := F'
    have hk : (cD acc).kp D = some (.lst acc) := if_pos rfl
    obtain ⟨z1, z2, z3⟩ := q.kp D _ hk
    refine ⟨⟨ad, q.len, q.le, q.slot, q.sep, q.keep, q.kF, q.nF, q.dF, q.loc, q.brw, q.pin, fun b o e => ?_⟩, z1, z2, fun i b d ei z => ?_⟩
    · have hb : b ≠ D := fun z => by subst z; rw [hDk] at e; cases e
      exact q.kp b o ((if_neg hb).trans e)
    · have := (q.own ei).1
      rw [this] at z
      cases z
      exact z3 i b d ei rfl
  refine ⟨fun i m H' => m = ds.length - i ∧ i ≤ ds.length ∧ ∃ (W' : Wd) (fs' : Fs) (acc : List V) (as : List G.D), W'.H = H' ∧ Le W1 W' ∧ Fr K (cD acc) σ W' fs' ∧ Reps K W' acc as ∧ clr fs' vs = fs' ∧
      compL ag at1 ae vs (ds.drop i) as fs' (kFr Q'), ⟨ds.length, rfl, Nat.zero_le _, ⟨upd W1.H D (.lst []), W1.F⟩, clr fs1 vs, [], [], rfl, Le.grow exD F1.dF, ?_, .nil, clr_idem fs1 vs, q1⟩, ?_⟩
  · exact toD (F1c.grow exD) upd_same (fun f => F1.dF D f hD) fun i b d e => hDS i b d (clr_get (by intro z; cases z) e).1
  rintro i m H2 ⟨rfl, hle, W2, fs2, acc, as, rfl, l2, F2, rA, cl2, q2⟩
  by_cases hlt : i < ds.length
  · refine .inr ⟨wk.go i W2 l2 hlt, fun H' => ∃ (W' : Wd) (fs' : Fs) (acc : List V) (as : List G.D), W'.H = H' ∧ Le W1 W' ∧ Fr K (cD acc) σ W' fs' ∧ Reps K W' acc as ∧ clr fs' vs = fs' ∧
      compL ag at1 ae vs (ds.drop (i + 1)) as fs' (kFr Q'), fun H' hN => ⟨ds.length - (i + 1), by omega, rfl, hlt, hN⟩, fun x H' y => ?_⟩
    obtain ⟨d, e1, ex, r⟩ := wk.yld i W2 x H' l2 F2.dF y hlt
    have hd : ds.drop i = d :: ds.drop (i + 1) := by
      rw [List.drop_eq_getElem_cons hlt]
      rw [List.getElem?_eq_getElem hlt] at e1
      rw [Option.some.inj e1]
    rw [hd] at q2
    have l3 : Le W2 ⟨H', W2.F⟩ := Le.grow ex F2.dF
    have Fw : Fr K (cD acc) (wipe σ vs) ⟨H', W2.F⟩ fs2 := by
      have := (F2.grow ex).clr (σ' := wipe σ vs) (vs := vs) (frees_of (by rw [← cl2]; intro v hv d z; exact (clr_get (by intro z; cases z) z).2 hv)) (wipe_idem σ vs)
      rw [cl2] at this
      exact this
    refine hg (cD acc) (wipe σ vs) ⟨H', W2.F⟩ fs2 x d _ _ Fw r q2 fun σ3 fs3 eW F3 q3 => ?_
    refine ⟨eW.trans (wipe_idem σ vs), ?_⟩
    refine ht (cD acc) σ3 ⟨H', W2.F⟩ fs3 X0 _ _ F3 AdX.x0 q3 fun b W4 fs4 l4 F4 q4 => ?_
    cases b with
    | false =>
      rw [if_neg Bool.false_ne_true]
      exact ⟨W4, _, acc, as, rfl, (l2.trans l3).trans l4, F4.clr q4.1 (eW.trans (wipe_idem σ vs)).symm, rA.mono (l3.trans l4), clr_idem _ _, q4.2⟩
    | true =>
      rw [if_pos rfl]
      refine (SndX.dd he) (cD acc) σ3 W4 fs4 X0 _ _ F4 AdX.x0 q4 fun v5 d5 W5 fs5 l5 F5 r5 q5 => ?_
      obtain ⟨Fc, eD, nfD, sD⟩ := ofD F5
      obtain ⟨zlen, znp, q5⟩ := q5
      have rA5 : Reps K W5 acc as := rA.mono ((l3.trans l4).trans l5)
      refine ⟨acc, eD, by rw [rA5.len]; exact zlen, ⟨upd W5.H D (.lst (acc ++ [v5])), W5.F⟩, clr fs5 vs, acc ++ [v5], as ++ [d5], rfl, ?_, ?_, ?_, clr_idem _ _, q5⟩
      · exact (((l2.trans l3).trans l4).trans l5).trans (Le.write (o := .lst acc) eD trivial nfD)
      · have F6 : Fr K c σ W5 (clr fs5 vs) := Fc.clr znp (eW.trans (wipe_idem σ vs)).symm
        have sD6 : ∀ (i : Nat) (b : Bool) (d : G.D), (clr fs5 vs)[i]? = some (.own b d) → σ[i]? ≠ some (some (.ref D)) := fun i b d ei z => by
          obtain ⟨h1, h2⟩ := clr_get (by intro z; cases z) ei
          have hw3 : σ3[i]? = σ[i]? := by
            have := congrArg (·[i]?) (eW.trans (wipe_idem σ vs))
            simpa only [wipe_out h2] using this
          exact sD i b d h1 (hw3.trans z)
        have F7 : Fr K c σ ⟨upd W5.H D (.lst (acc ++ [v5])), W5.F⟩ (clr fs5 vs) := by
          obtain ⟨ad, q⟩ := F6
          refine ⟨ad, q.move (Le.write (o := .lst acc) eD trivial nfD) (fun j p d ej => ⟨upd_ne fun z => sD6 j p d ej (z ▸ (q.own ej).1), (q.own ej).2.1⟩) (fun b o e n => ?_) q.nF (fun b f => ?_) fun b o e z => ⟨?_, (q.kp b o e).2.1⟩⟩
          · have hb : b ≠ D := fun z => by subst z; rw [hD0] at e; cases e
            exact (upd_ne hb).trans (q.keep b o e n)
          · have hb : b ≠ D := fun z => nfD (z ▸ f)
            show upd W5.H D _ b ≠ none
            rw [upd_ne hb]
            exact q.dF b f
          · have hb : b ≠ D := fun z => by subst z; rw [hDk] at e; cases e
            exact (upd_ne hb).trans z
        exact toD F7 upd_same nfD sD6
      · exact (rA5.app (.cons r5 .nil)).mono (Le.write (o := .lst acc) eD trivial nfD)
  · have hd : ds.drop i = [] := List.drop_eq_nil_of_le (by omega)
    rw [hd] at q2
    refine .inl ⟨wk.stop i W2 l2 (by omega), ?_⟩
    obtain ⟨Fc, eD, nfD, sD⟩ := ofD F2
    exact k _ (.fr (.lst as)) W2 fs2 (l1.trans l2) Fc ⟨D, rfl, hD0, nfD, ⟨acc, eD, rA⟩, sD, hDk⟩ q2
end
/-- [e for x in .. if ..] -/
theorem ex_lc {own : List (Str × Nat)} (hN : X.N.Nodup) (hc : X.calm = true) (hi : IX X Ec tg it ai) (ok : BlkOk X.N X.env.scope scope own)
    (hg : ∀ (s : Shared) (H : Hp) (C : Addr) (cl : List (Str × Addr)) (fp : List Addr), GO (X.blk s H scope (compEnvC scope cl C X.env) fp) (own.map (·.2)) tg ag)
    (ht : ∀ (s : Shared) (H : Hp) (C : Addr) (cl : List (Str × Addr)) (fp : List Addr), ETs (X.blk s H scope (compEnvC scope cl C X.env) fp) ifs at1)
    (he : ∀ (s : Shared) (H : Hp) (C : Addr) (cl : List (Str × Addr)) (fp : List Addr), EX (X.blk s H scope (compEnvC scope cl C X.env) fp) (fun _ => E0) elt ae)
    (hs : ∀ x, foldedSetIterable it X.env x = pure x := by intro _; rfl) : EX X Ec (.ListComp elt [⟨tg, it, ifs, 0⟩] scope pos) (aComp ai ag at1 ae (own.map (·.2))) :=
  EXt.x ⟨pe_lc hc hN hi.p ok (fun s H C cl fp => (hg s H C cl fp).p) (fun s H C cl fp => (ht s H C cl fp).p) (fun s H C cl fp => (he s H C cl fp).p) hs,
    snd_lc hi.s cSndGO.s cSndT.s cSndX.s⟩
theorem snd_set {K : PySem.W.Frag} {i : Nat} {t : TE} {a : AX} (h : SndX K Ec t a) : SndS K Ec (tAsg t (gName i)) (aSet i a) := fun c σ W fs E D A F ad ha k => by
  refine h.dd c σ W fs E _ _ F ad ha fun v d W1 fs1 l1 F1 r1 q1 => ?_
  exact k.nx _ W1 _ l1 (F1.setD q1.1 r1) q1.2
theorem snd_setO {K : PySem.W.Frag} {i : Nat} {t : TE} {a : AX} (h : SndX K Ec t a) : SndS K Ec (tAsg t (gName i)) (aSetO i a) := fun c σ W fs E D A F ad ha k => by
  refine h c σ W fs E _ _ F ad ha fun v r W1 fs1 l1 F1 r1 q1 => ?_
  cases r with
  | dt d => exact k.nx _ W1 _ l1 (F1.setD q1.1 r1) q1.2
  | fr d => exact k.nx _ W1 _ l1 (F1.setO q1.1 r1) q1.2
  | sl i => exact q1.elim
theorem sx_setLc {y : Str} {py spos : Pos} (i : Nat) {own : List (Str × Nat)} (hN : X.N.Nodup) (hc : X.calm = true) (hi : IX X Ec tg it ai) (ok : BlkOk X.N X.env.scope scope own)
    (hg : ∀ (s : Shared) (H : Hp) (C : Addr) (cl : List (Str × Addr)) (fp : List Addr), GO (X.blk s H scope (compEnvC scope cl C X.env) fp) (own.map (·.2)) tg ag)
    (ht : ∀ (s : Shared) (H : Hp) (C : Addr) (cl : List (Str × Addr)) (fp : List Addr), ETs (X.blk s H scope (compEnvC scope cl C X.env) fp) ifs at1)
    (he : ∀ (s : Shared) (H : Hp) (C : Addr) (cl : List (Str × Addr)) (fp : List Addr), EX (X.blk s H scope (compEnvC scope cl C X.env) fp) (fun _ => E0) elt ae)
    (hsw : swapsWith (.ListComp elt [⟨tg, it, ifs, 0⟩] scope pos) (some (.Name y py)) spos.line X.env = pure true)
    (hy : X.N[i]? = some y := by rfl) (hyl : X.env.scope.names.lookup y = some .local := by rfl)
    (hs : ∀ x, foldedSetIterable it X.env x = pure x := by intro _; rfl) : SX X Ec (.Assign [.Name y py] (.ListComp elt [⟨tg, it, ifs, 0⟩] scope pos) spos) (aSet i (aComp ai ag at1 ae (own.map (·.2)))) :=
  SXt.x ⟨ps_setLc hc hN hy hyl hsw hi.p ok (fun s H C cl fp => (hg s H C cl fp).p) (fun s H C cl fp => (ht s H C cl fp).p) (fun s H C cl fp => (he s H C cl fp).p) hs,
    snd_set (snd_lc hi.s cSndGO.s cSndT.s cSndX.s)⟩
theorem sx_setLcO {y : Str} {py spos : Pos} (i : Nat) {own : List (Str × Nat)} (hN : X.N.Nodup) (hc : X.calm = true) (hi : IX X Ec tg it ai) (ok : BlkOk X.N X.env.scope scope own)
    (hg : ∀ (s : Shared) (H : Hp) (C : Addr) (cl : List (Str × Addr)) (fp : List Addr), GO (X.blk s H scope (compEnvC scope cl C X.env) fp) (own.map (·.2)) tg ag)
    (ht : ∀ (s : Shared) (H : Hp) (C : Addr) (cl : List (Str × Addr)) (fp : List Addr), ETs (X.blk s H scope (compEnvC scope cl C X.env) fp) ifs at1)
    (he : ∀ (s : Shared) (H : Hp) (C : Addr) (cl : List (Str × Addr)) (fp : List Addr), EX (X.blk s H scope (compEnvC scope cl C X.env) fp) (fun _ => E0) elt ae)
    (hsw : swapsWith (.ListComp elt [⟨tg, it, ifs, 0⟩] scope pos) (some (.Name y py)) spos.line X.env = pure true)
    (hy : X.N[i]? = some y := by rfl) (hyl : X.env.scope.names.lookup y = some .local := by rfl)
    (hs : ∀ x, foldedSetIterable it X.env x = pure x := by intro _; rfl) : SX X Ec (.Assign [.Name y py] (.ListComp elt [⟨tg, it, ifs, 0⟩] scope pos) spos) (aSetO i (aComp ai ag at1 ae (own.map (·.2)))) :=
  SXt.x ⟨ps_setLc hc hN hy hyl hsw hi.p ok (fun s H C cl fp => (hg s H C cl fp).p) (fun s H C cl fp => (ht s H C cl fp).p) (fun s H C cl fp => (he s H C cl fp).p) hs,
    snd_setO (snd_lc hi.s cSndGO.s cSndT.s cSndX.s)⟩
/-! names that a turn leaves behind -/
def kClr (vs : List Nat) (Q : Fs → Prop) (fs : Fs) : Prop := frees? fs vs ∧ Q (clr fs vs)
def aClr (vs : List Nat) (b : AS) (E : XP) (A : AEnds) (fs : Fs) : Prop := b E { A with nx := kClr vs A.nx, ct := kClr vs A.ct } fs
theorem ss_clr {X : Cx} {Ec : L2.St → XK} {sts : List Stmt} {b : AS} (vs : List Nat) (h : SXs X Ec sts b) : SXs X Ec sts (aClr vs b) :=
  SXst.x ⟨h.p, fun c σ W fs E D A F ad ha k => h.s c σ W fs E D _ F ad ha ⟨fun σ' W' fs' l F' q => k.nx σ' W' _ l (Fr.clr F' q.1 rfl) q.2, fun v r σ' W' fs' l F' q => k.rt v r σ' W' fs' l F' q, fun σ' W' fs' l F' q => k.bk σ' W' fs' l F' q, fun σ' W' fs' l F' q => k.ct σ' W' _ l (Fr.clr F' q.1 rfl) q.2⟩⟩
end G

namespace G
open PySem PySem.Spec PyProof.Rows L2

/-! contracts -/
/-- arguments, what is wanted of the result and the arguments behind, what is wanted of an exception -/
abbrev ASp := List Sl → (Sl → List Sl → Prop) → (Value → XF → List Sl → Prop) → Prop

def ArgOk (K : PySem.W.Frag) (W : Wd) (a : Addr) (v : V) : Sl → Prop
  | .dat d => Rep K W v d
  | .own true d => v = .ref a ∧ ¬ W.F a ∧ Cont K W a d
  | _ => False
structure ArgsOk (K : PySem.W.Frag) (W : Wd) (vs : List V) (args : List Sl) (pa : Nat → Addr) : Prop where
  len : vs.length = args.length
  ok : ∀ (i : Nat) (v : V) (s : Sl), vs[i]? = some v → args[i]? = some s → ArgOk K W (pa i) v s
  sep : ∀ (i j : Nat) (d e : D), args[i]? = some (.own true d) → args[j]? = some (.own true e) → pa i = pa j → i = j
  dF : ∀ b, W.F b → W.H b ≠ none
structure AfterOk (K : PySem.W.Frag) (W W' : Wd) (args args' : List Sl) (pa : Nat → Addr) : Prop where
  le : Le W W'
  keep : ∀ b o, W.H b = some o → (∀ (i : Nat) (d : D), args[i]? = some (.own true d) → pa i ≠ b) → W'.H b = some o
  nF : ∀ b, W'.F b → W.F b ∨ W.H b = none
  dF : ∀ b, W'.F b → W'.H b ≠ none
  len : args'.length = args.length
  own : ∀ (i : Nat) (d : D), args[i]? = some (.own true d) → ∃ d', args'[i]? = some (.own true d') ∧ ¬ W'.F (pa i) ∧ Cont K W' (pa i) d'
def ResOk (K : PySem.W.Frag) (W W' : Wd) (v : V) : Sl → Prop
  | .dat d => Rep K W' v d
  | .own false d => ∃ p, v = .ref p ∧ W.H p = none ∧ ¬ W'.F p ∧ Cont K W' p d
  | .tp ds e => ∃ p vs q, v = .ref p ∧ W'.H p = some (.tup (vs ++ [.ref q])) ∧ Reps K W' vs ds ∧ W.H q = none ∧ ¬ W'.F q ∧ Cont K W' q e
  | _ => False
def spOf (K : PySem.W.Frag) (sp : ASp) : Sp := fun vs H Q E => ∃ (F : Addr → Prop) (args : List Sl) (pa : Nat → Addr) (Q' : Sl → List Sl → Prop) (E' : Value → XF → List Sl → Prop),
  ArgsOk K ⟨H, F⟩ vs args pa ∧ sp args Q' E' ∧
  (∀ v r args' W', AfterOk K ⟨H, F⟩ W' args args' pa → ResOk K ⟨H, F⟩ W' v r → Q' r args' → Q v W'.H) ∧
  (∀ cls od xf args' W', AfterOk K ⟨H, F⟩ W' args args' pa → XFld K W' od xf → E' cls xf args' → E cls od W'.H)

/-- the arguments behind: what is borrowed as it stands -/
def outs : List Sl → Fs → List Sl
  | [], _ => []
  | .own true _ :: as, s :: fs => s :: outs as fs
  | a :: as, _ :: fs => a :: outs as fs
  | a :: as, [] => a :: as
theorem outs_len : ∀ (as : List Sl) (fs : Fs), (outs as fs).length = as.length
  | [], _ => rfl
  | .own true _ :: as, s :: fs => by show (outs as fs).length + 1 = as.length + 1; rw [outs_len as fs]
  | .own false _ :: as, _ :: fs => by show (outs as fs).length + 1 = as.length + 1; rw [outs_len as fs]
  | .un :: as, _ :: fs => by show (outs as fs).length + 1 = as.length + 1; rw [outs_len as fs]
  | .tp _ _ :: as, _ :: fs => by show (outs as fs).length + 1 = as.length + 1; rw [outs_len as fs]
  | .dat _ :: as, _ :: fs => by show (outs as fs).length + 1 = as.length + 1; rw [outs_len as fs]
  | a :: as, [] => by
    cases a with
    | own p d => cases p <;> rfl
    | _ => rfl
theorem outs_own : ∀ (as : List Sl) (fs : Fs) (i : Nat) (d : D) (s : Sl), as[i]? = some (.own true d) → fs[i]? = some s → (outs as fs)[i]? = some s
  | [], _, _, _, _, h, _ => by simp at h
  | _ :: _, [], _, _, _, _, h => by simp at h
  | a :: as, s :: fs, 0, d, t, h, h2 => by
    have e : a = .own true d := by simpa using h
    subst e
    have e2 : s = t := by simpa using h2
    subst e2
    rfl
  | a :: as, s :: fs, i + 1, d, t, h, h2 => by
    have h' : as[i]? = some (.own true d) := by simpa using h
    have h2' : fs[i]? = some t := by simpa using h2
    have q := outs_own as fs i d t h' h2'
    cases a with
    | un => exact q
    | tp _ _ => exact q
    | dat x => exact q
    | own p x => cases p <;> exact q

section
variable {P : Program} {w : World} {K : PySem.W.Frag} {mg : Str → Option Value} {base : Heap}
/-- the frame at a def's entry -/
theorem fr_start {N : List Str} {vs : List V} {args : List Sl} {pa : Nat → Addr} {W : Wd} (h : ArgsOk K W vs args pa) (hN : args.length ≤ N.length) :
    Fr K ⟨W, fun i => match args[i]? with | some (.own true _) => some (pa i) | _ => none, fun _ => none, W⟩ (L2.start N vs) W (args ++ List.replicate (N.length - args.length) .un) := by
  have get : ∀ {i : Nat} {s : Sl}, s ≠ .un → (args ++ List.replicate (N.length - args.length) Sl.un)[i]? = some s → args[i]? = some s := by
    intro i s hs e
    by_cases hi : i < args.length
    · rw [List.getElem?_append_left hi] at e; exact e
    · rw [List.getElem?_append_right (by omega), List.getElem?_replicate] at e
      split at e
      · cases e; exact absurd rfl hs
      · cases e
  have noF : ∀ {i : Nat} {d : D}, args[i]? ≠ some (.own false d) := fun {i d} e => by
    have hi : i < vs.length := by rw [h.len]; exact (List.getElem?_eq_some_iff.mp e).1
    exact h.ok i vs[i] _ (List.getElem?_eq_getElem hi) e
  refine ⟨pa, ?_, ⟨Le.refl W, Le.refl W⟩, fun i s e => ?_, fun i j p q d e e1 e2 ea => ?_, fun b o e _ => e, fun b f => f, fun b f => .inl f, h.dF, fun i d e => ?_, fun i d e => ?_, fun i a e => ?_, fun b o e => by cases e⟩
  · unfold L2.start
    rw [List.length_append, List.length_map, List.length_replicate, List.length_append, List.length_replicate, h.len]
  · cases s with
    | un => trivial
    | tp ds x =>
      have e' := get (by intro z; cases z) e
      have hi : i < vs.length := by rw [h.len]; exact (List.getElem?_eq_some_iff.mp e').1
      exact h.ok i vs[i] _ (List.getElem?_eq_getElem hi) e'
    | dat d =>
      have e' := get (by intro z; cases z) e
      have hi : i < vs.length := by rw [h.len]; exact (List.getElem?_eq_some_iff.mp e').1
      refine ⟨vs[i], ?_, h.ok i vs[i] _ (List.getElem?_eq_getElem hi) e'⟩
      unfold L2.start
      rw [List.getElem?_append_left (by simpa using hi), List.getElem?_map, List.getElem?_eq_getElem hi]
      rfl
    | own p d =>
      have e' := get (by intro z; cases z) e
      have hi : i < vs.length := by rw [h.len]; exact (List.getElem?_eq_some_iff.mp e').1
      cases p with
      | false => exact absurd e' noF
      | true =>
        obtain ⟨z1, z2, z3⟩ := h.ok i vs[i] _ (List.getElem?_eq_getElem hi) e'
        refine ⟨?_, z2, z3⟩
        unfold L2.start
        rw [List.getElem?_append_left (by simpa using hi), List.getElem?_map, List.getElem?_eq_getElem hi, z1]
        rfl
  · have a1 := get (by intro z; cases z) e1
    have a2 := get (by intro z; cases z) e2
    cases p with
    | false => exact absurd a1 noF
    | true => cases q with
      | false => exact absurd a2 noF
      | true => exact h.sep i j d e a1 a2 ea
  · exact absurd (get (by intro z; cases z) e) noF
  · have e' := get (by intro z; cases z) e
    show (match args[i]? with | some (.own true _) => some (pa i) | _ => none) = some (pa i)
    rw [e']
  · have e' : (match args[i]? with | some (.own true _) => some (pa i) | _ => none) = some a := e
    split at e'
    · rename_i d ei
      cases e'
      have hi : i < vs.length := by rw [h.len]; exact (List.getElem?_eq_some_iff.mp ei).1
      obtain ⟨z1, z2, z3⟩ := h.ok i vs[i] _ (List.getElem?_eq_getElem hi) ei
      obtain ⟨o, ho, _⟩ := z3.mut
      refine ⟨by rw [ho]; simp, z2, d, ?_⟩
      rw [List.getElem?_append_left (List.getElem?_eq_some_iff.mp ei).1]
      exact ei
    · cases e'
/-- .. and what stands behind -/
theorem after_of {vs : List V} {args : List Sl} {pa : Nat → Addr} {W W' : Wd} {σ : L2.St} {fs : Fs} (h : ArgsOk K W vs args pa)
    (F : Fr K ⟨W, fun i => match args[i]? with | some (.own true _) => some (pa i) | _ => none, fun _ => none, W⟩ σ W' fs) : AfterOk K W W' args (outs args fs) pa := by
  obtain ⟨ad, q⟩ := F
  refine ⟨q.le.1, fun b o e n => q.keep b o e fun i z => ?_, q.nF, q.dF, outs_len _ _, fun i d e => ?_⟩
  · have z' : (match args[i]? with | some (.own true _) => some (pa i) | _ => none) = some b := z
    split at z'
    · rename_i d ei
      cases z'
      exact n i d ei rfl
    · cases z'
  · have hp : (match args[i]? with | some (.own true _) => some (pa i) | _ => none) = some (pa i) := by rw [e]
    obtain ⟨_, _, d', e'⟩ := q.pin i (pa i) hp
    have hb : (match args[i]? with | some (.own true _) => some (pa i) | _ => none) = some (ad i) := q.brw i d' e'
    rw [hp] at hb
    have ea : pa i = ad i := Option.some.inj hb
    obtain ⟨_, nf, ct⟩ := q.own e'
    rw [← ea] at nf ct
    exact ⟨d', outs_own args fs i d _ e e', nf, ct⟩

/-- THE RULE for a def that lets no exception out -/
theorem fn_ok {x qual : Str} {st : Stmt} {f : Addr} {fd : FuncData} {N ps : List Str} {k : Nat} {sp : ASp} (u : Fs) (F : Fun K x qual st f fd) (S : FnScope N ps (defScope st)) (len : ∀ args Q E, sp args Q E → args.length = ps.length)
    (hbody : ∀ (cdv : Value) (A : Around) (outer : List Env) (s : Shared) (H : Hp) (E : XK), Room k (A.deeper (envOfC qual (defScope st) s.heap.objs.size f cdv)) →
      ∃ a, SXs (cxOf CX0 P w K mg base N qual (defScope st) f cdv A outer s H E).nox (fun _ => E0) (defBody st) a ∧
        ∀ args Q E', sp args Q E' → a X0 { nx := fun fs => Q (.dat .non) (outs args fs), rt := fun r fs => Q r (outs args fs) } (args ++ u))
    (hu : List.replicate (N.length - ps.length) Sl.un = u := by rfl) : FnOk P w K mg base CX0 (k + 1) f fd ps (spOf K sp) := by
  have hpl : ps.length ≤ N.length := by have := congrArg List.length S.pre; rw [List.length_take] at this; omega
  have hlen : ∀ vs H Q E, spOf K sp vs H Q E → vs.length = ps.length := fun vs H Q E ⟨F, args, pa, Q', E', h1, h2, _⟩ => by rw [h1.len, len args Q' E' h2]
  refine F.ok S hlen fun cdv A outer s H vs Q E hr hsp => ?_
  obtain ⟨Fz, args, pa, Q', E', h1, h2, h3, h4⟩ := hsp
  obtain ⟨a, hS, ha⟩ := hbody cdv A outer s H E hr
  have hal := len args Q' E' h2
  refine ⟨_, hS.p, ?_⟩
  have F0 := fr_start (N := N) h1 (by rw [hal]; exact hpl)
  rw [hal, hu] at F0
  refine hS.s _ _ _ _ X0 _ _ F0 AdX.x0 (ha args Q' E' h2) ⟨fun σ' W' fs' l F' q => ?_, fun v r σ' W' fs' l F' ro q => ?_, fun _ _ _ _ _ q => q.elim, fun _ _ _ _ _ q => q.elim⟩
  · exact h3 .non (.dat .non) _ W' (after_of h1 F') .non q
  · refine h3 v r _ W' (after_of h1 F') ?_ q
    cases r with
    | dat d => exact ro
    | un => exact ro.elim
    | tp ds e =>
      obtain ⟨p, us, q, e1, e2, e3, e4, e5, e6, _⟩ := ro
      exact ⟨p, us, q, e1, e2, e3, e4, e5, e6⟩
    | own p d => cases p with
      | true => exact ro.elim
      | false =>
        obtain ⟨p, e, n, nf, ct, _⟩ := ro
        exact ⟨p, e, n, nf, ct⟩
/-- THE RULE for a def that may raise -/
theorem fn_okX {x qual : Str} {st : Stmt} {f : Addr} {fd : FuncData} {N ps : List Str} {k : Nat} {sp : ASp} (u : Fs) (F : Fun K x qual st f fd) (S : FnScope N ps (defScope st)) (len : ∀ args Q E, sp args Q E → args.length = ps.length)
    (hbody : ∀ (cdv : Value) (A : Around) (outer : List Env) (s : Shared) (H : Hp) (E : XK), Room k (A.deeper (envOfC qual (defScope st) s.heap.objs.size f cdv)) →
      ∃ a, SXs (cxOf (L2.CX P w) P w K mg base N qual (defScope st) f cdv A outer s H E) (fun _ => E) (defBody st) a ∧
        ∀ args Q E', sp args Q E' → a (fun cls xf fs => E' cls xf (outs args fs)) { nx := fun fs => Q (.dat .non) (outs args fs), rt := fun r fs => Q r (outs args fs) } (args ++ u))
    (hu : List.replicate (N.length - ps.length) Sl.un = u := by rfl) : FnOk P w K mg base (L2.CX P w) (k + 1) f fd ps (spOf K sp) := by
  have hpl : ps.length ≤ N.length := by have := congrArg List.length S.pre; rw [List.length_take] at this; omega
  have hlen : ∀ vs H Q E, spOf K sp vs H Q E → vs.length = ps.length := fun vs H Q E ⟨F, args, pa, Q', E', h1, h2, _⟩ => by rw [h1.len, len args Q' E' h2]
  refine F.okX S hlen fun cdv A outer s H vs Q E hr hsp => ?_
  obtain ⟨Fz, args, pa, Q', E', h1, h2, h3, h4⟩ := hsp
  obtain ⟨a, hS, ha⟩ := hbody cdv A outer s H E hr
  have hal := len args Q' E' h2
  refine ⟨_, hS.p, ?_⟩
  have F0 := fr_start (N := N) h1 (by rw [hal]; exact hpl)
  rw [hal, hu] at F0
  refine hS.s _ _ _ _ _ _ _ F0 (fun σ W' fs cls od xf F' xk q => ?_) (ha args Q' E' h2) ⟨fun σ' W' fs' l F' q => ?_, fun v r σ' W' fs' l F' ro q => ?_, fun _ _ _ _ _ q => q.elim, fun _ _ _ _ _ q => q.elim⟩
  · exact h4 cls od xf _ W' (after_of h1 F') xk q
  · exact h3 .non (.dat .non) _ W' (after_of h1 F') .non q
  · refine h3 v r _ W' (after_of h1 F') ?_ q
    cases r with
    | dat d => exact ro
    | un => exact ro.elim
    | tp ds e =>
      obtain ⟨p, us, q, e1, e2, e3, e4, e5, e6, _⟩ := ro
      exact ⟨p, us, q, e1, e2, e3, e4, e5, e6⟩
    | own p d => cases p with
      | true => exact ro.elim
      | false =>
        obtain ⟨p, e, n, nf, ct, _⟩ := ro
        exact ⟨p, e, n, nf, ct⟩
end
end G

namespace G
open PySem PySem.Spec PyProof.Rows L2

/-! calls of defs -/
def argsOf (fs : Fs) : List Vx → Option (List Sl)
  | [] => some []
  | .dt d :: r => match argsOf fs r with
    | some as => some (.dat d :: as)
    | none => none
  | .sl i :: r => match fs[i]?, argsOf fs r with
    | some (.own _ d), some as => some (.own true d :: as)
    | some (.dat d), some as => some (.dat d :: as)
    | _, _ => none
def loans (fs : Fs) : List Vx → List Nat
  | [] => []
  | .dt _ :: r => loans fs r
  | .sl i :: r => match fs[i]? with
    | some (.own _ _) => i :: loans fs r
    | _ => loans fs r
def apart : List Nat → Bool
  | [] => true
  | a :: r => !(r.contains a) && apart r
def backs : List Vx → List Sl → Fs → Fs
  | .sl i :: r, .own true d :: as, fs => match fs[i]? with
    | some (.own p _) => backs r as (fs.set i (.own p d))
    | _ => backs r as fs
  | _ :: r, _ :: as, fs => backs r as fs
  | _, _, fs => fs
def resRx : Sl → Option Rx
  | .dat d => some (.dt d)
  | .own false d => some (.fr d)
  | _ => none
def kRes (rs : List Vx) (fs1 : Fs) (Q : Rx → Fs → Prop) (r : Sl) (args' : List Sl) : Prop := match resRx r with
  | some x => Q x (backs rs args' fs1)
  | none => False
def kExc (rs : List Vx) (fs1 : Fs) (E : XP) (cls : Value) (xf : XF) (args' : List Sl) : Prop := E cls xf (backs rs args' fs1)
def kCall (sp : ASp) (E : XP) (Q : Rx → Fs → Prop) (rs : List Vx) (fs1 : Fs) : Prop := match apart (loans fs1 rs), argsOf fs1 rs with
  | true, some args => sp args (kRes rs fs1 Q) (kExc rs fs1 E)
  | _, _ => False
def aCall (sp : ASp) (a : AVs) (E : XP) (fs : Fs) (Q : Rx → Fs → Prop) : Prop := a E fs (kCall sp E Q)

theorem mem_loans {fs : Fs} {i : Nat} {p : Bool} {d : D} (e : fs[i]? = some (.own p d)) : ∀ {rs : List Vx} {j : Nat}, rs[j]? = some (.sl i) → i ∈ loans fs rs
  | [], _, h => by simp at h
  | .dt _ :: r, 0, h => by simp at h
  | .dt _ :: r, j + 1, h => mem_loans e (rs := r) (j := j) (by simpa using h)
  | .sl k :: r, 0, h => by
    have : k = i := by simpa using h
    subst this
    unfold loans; rw [e]; exact List.mem_cons_self
  | .sl k :: r, j + 1, h => by
    have := mem_loans e (rs := r) (j := j) (by simpa using h)
    unfold loans
    split
    · exact List.mem_cons_of_mem _ this
    · exact this
theorem loans_inj {fs : Fs} {i : Nat} {p : Bool} {d : D} (e : fs[i]? = some (.own p d)) : ∀ {rs : List Vx} {j k : Nat}, apart (loans fs rs) = true → rs[j]? = some (.sl i) → rs[k]? = some (.sl i) → j = k
  | [], _, _, _, h, _ => by simp at h
  | .dt _ :: r, 0, _, _, h, _ => by simp at h
  | .dt _ :: r, _ + 1, 0, _, _, h => by simp at h
  | .dt _ :: r, j + 1, k + 1, a, h, h2 => by rw [loans_inj e (rs := r) (j := j) (k := k) a (by simpa using h) (by simpa using h2)]
  | .sl z :: r, 0, 0, _, _, _ => rfl
  | .sl z :: r, j + 1, k + 1, a, h, h2 => by
    have a' : apart (loans fs r) = true := by
      unfold loans at a
      split at a
      · unfold apart at a; simp only [Bool.and_eq_true] at a; exact a.2
      · exact a
    rw [loans_inj e (rs := r) (j := j) (k := k) a' (by simpa using h) (by simpa using h2)]
  | .sl z :: r, 0, k + 1, a, h, h2 => by
    have : z = i := by simpa using h
    subst this
    unfold loans at a
    rw [e] at a
    simp only [apart, Bool.and_eq_true, Bool.not_eq_true'] at a
    have := mem_loans e (rs := r) (j := k) (by simpa using h2)
    exact absurd this (by simpa using a.1)
  | .sl z :: r, j + 1, 0, a, h, h2 => by
    have : z = i := by simpa using h2
    subst this
    unfold loans at a
    rw [e] at a
    simp only [apart, Bool.and_eq_true, Bool.not_eq_true'] at a
    have := mem_loans e (rs := r) (j := j) (by simpa using h)
    exact absurd this (by simpa using a.1)
theorem argsOf_get {fs : Fs} : ∀ {rs : List Vx} {args : List Sl}, argsOf fs rs = some args → args.length = rs.length ∧ ∀ (j : Nat) (s : Sl), args[j]? = some s →
    (∃ d, rs[j]? = some (.dt d) ∧ s = .dat d) ∨ (∃ i d, rs[j]? = some (.sl i) ∧ fs[i]? = some (.dat d) ∧ s = .dat d) ∨ ∃ i p d, rs[j]? = some (.sl i) ∧ fs[i]? = some (.own p d) ∧ s = .own true d
  | [], args, e => by cases e; exact ⟨rfl, fun j s h => by simp at h⟩
  | .dt d :: r, args, e => by
    unfold argsOf at e
    split at e
    · rename_i as e2
      cases e
      obtain ⟨h1, h2⟩ := argsOf_get e2
      refine ⟨by simp [h1], fun j s h => ?_⟩
      cases j with
      | zero => exact .inl ⟨d, rfl, by simpa using h.symm⟩
      | succ j => simpa using h2 j s (by simpa using h)
    · cases e
  | .sl i :: r, args, e => by
    unfold argsOf at e
    split at e
    · rename_i p d as e1 e2
      cases e
      obtain ⟨h1, h2⟩ := argsOf_get e2
      refine ⟨by simp [h1], fun j s h => ?_⟩
      cases j with
      | zero => exact .inr (.inr ⟨i, p, d, rfl, e1, by simpa using h.symm⟩)
      | succ j => simpa using h2 j s (by simpa using h)
    · rename_i d as e1 e2
      cases e
      obtain ⟨h1, h2⟩ := argsOf_get e2
      refine ⟨by simp [h1], fun j s h => ?_⟩
      cases j with
      | zero => exact .inr (.inl ⟨i, d, rfl, e1, by simpa using h.symm⟩)
      | succ j => simpa using h2 j s (by simpa using h)
    · cases e
theorem backs_len : ∀ (rs : List Vx) (as : List Sl) (fs : Fs), (backs rs as fs).length = fs.length
  | [], as, fs => by cases as <;> rfl
  | .dt _ :: r, [], fs => rfl
  | .sl _ :: r, [], fs => rfl
  | .dt d :: r, a :: as, fs => by
    have := backs_len r as fs
    cases a with
    | own p x => cases p <;> exact this
    | _ => exact this
  | .sl i :: r, a :: as, fs => by
    cases a with
    | own p x =>
      cases p with
      | false => exact backs_len r as fs
      | true =>
        show (match fs[i]? with
          | some (.own p _) => backs r as (fs.set i (.own p x))
          | _ => backs r as fs).length = fs.length
        split
        · rw [backs_len, List.length_set]
        · exact backs_len r as fs
    | _ => exact backs_len r as fs
theorem backs_get : ∀ (rs : List Vx) (as : List Sl) (fs : Fs) (i : Nat) (s' : Sl), (backs rs as fs)[i]? = some s' →
    (fs[i]? = some s' ∧ ∀ (j : Nat) (d' : D) (p : Bool) (d : D), rs[j]? = some (.sl i) → as[j]? = some (.own true d') → fs[i]? ≠ some (.own p d)) ∨
    ∃ (j : Nat) (p : Bool) (d d' : D), rs[j]? = some (.sl i) ∧ fs[i]? = some (.own p d) ∧ as[j]? = some (.own true d') ∧ s' = .own p d'
  | [], as, fs, i, s', h => .inl ⟨by cases as <;> exact h, fun j d' p d e => by simp at e⟩
  | r0 :: r, [], fs, i, s', h => .inl ⟨by cases r0 <;> exact h, fun j d' p d _ e => by simp at e⟩
  | r0 :: r, a :: as, fs, i, s', h => by
    have skip : (backs r as fs)[i]? = some s' → (∀ d' p d, r0 = .sl i → a = .own true d' → fs[i]? ≠ some (.own p d)) →
      (fs[i]? = some s' ∧ ∀ (j : Nat) (d' : D) (p : Bool) (d : D), (r0 :: r)[j]? = some (.sl i) → (a :: as)[j]? = some (.own true d') → fs[i]? ≠ some (.own p d)) ∨
        ∃ (j : Nat) (p : Bool) (d d' : D), (r0 :: r)[j]? = some (.sl i) ∧ fs[i]? = some (.own p d) ∧ (a :: as)[j]? = some (.own true d') ∧ s' = .own p d' := fun h h0 => by
      rcases backs_get r as fs i s' h with ⟨z1, z2⟩ | ⟨j, p, d, d', z1, z2, z3, z4⟩
      · refine .inl ⟨z1, fun j d' p d e1 e2 => ?_⟩
        cases j with
        | zero => exact h0 d' p d (by simpa using e1) (by simpa using e2)
        | succ j => exact z2 j d' p d (by simpa using e1) (by simpa using e2)
      · exact .inr ⟨j + 1, p, d, d', by simpa using z1, z2, by simpa using z3, z4⟩
    cases r0 with
    | dt x =>
      refine skip ?_ (fun _ _ _ e => by cases e)
      cases a with
      | own p x => cases p <;> exact h
      | _ => exact h
    | sl k =>
      cases a with
      | own p x =>
        cases p with
        | false => exact skip h (fun _ _ _ _ e => by cases e)
        | true =>
          have h' : (match fs[k]? with
            | some (.own p _) => backs r as (fs.set k (.own p x))
            | _ => backs r as fs)[i]? = some s' := h
          split at h'
          · rename_i p d ek
            have hl : k < fs.length := (List.getElem?_eq_some_iff.mp ek).1
            rcases backs_get r as _ i s' h' with ⟨z1, z2⟩ | ⟨j, q, y, d', z1, z2, z3, z4⟩
            · by_cases hk : k = i
              · subst hk
                rw [List.getElem?_set_self hl] at z1
                cases z1
                exact .inr ⟨0, p, d, x, rfl, ek, rfl, rfl⟩
              · rw [List.getElem?_set_ne hk] at z1 z2
                refine .inl ⟨z1, fun j d' p d e1 e2 => ?_⟩
                cases j with
                | zero => exact absurd (by simpa using e1) hk
                | succ j => exact z2 j d' p d (by simpa using e1) (by simpa using e2)
            · by_cases hk : k = i
              · subst hk
                rw [List.getElem?_set_self hl] at z2
                cases z2
                exact .inr ⟨j + 1, p, d, d', by simpa using z1, ek, by simpa using z3, z4⟩
              · rw [List.getElem?_set_ne hk] at z2
                exact .inr ⟨j + 1, q, y, d', by simpa using z1, z2, by simpa using z3, z4⟩
          · rename_i hno
            exact skip h' (fun d' p d e _ z => by cases e; exact hno p d z)
      | _ => exact skip h (fun _ _ _ _ e => by cases e)
theorem vsok_get {K : PySem.W.Frag} {W : Wd} {σ : L2.St} : ∀ {vs : List V} {rs : List Vx}, VsOk K W σ vs rs → vs.length = rs.length ∧ (∀ (j : Nat) (v : V) (d : D), vs[j]? = some v → rs[j]? = some (.dt d) → Rep K W v d) ∧ ∀ (j i : Nat) (v : V), vs[j]? = some v → rs[j]? = some (.sl i) → σ[i]? = some (some v)
  | [], [], _ => ⟨rfl, fun j v d h => by simp at h, fun j i v h => by simp at h⟩
  | [], _ :: _, h => h.elim
  | _ :: _, [], h => h.elim
  | v :: vs, .dt x :: rs, h => by
    obtain ⟨h1, h2, h3⟩ := vsok_get h.2
    refine ⟨by simp [h1], fun j u d e1 e2 => ?_, fun j i u e1 e2 => ?_⟩
    · cases j with
      | zero =>
        have a1 : v = u := by simpa using e1
        have a2 : x = d := by simpa using e2
        rw [← a1, ← a2]; exact h.1
      | succ j => exact h2 j u d (by simpa using e1) (by simpa using e2)
    · cases j with
      | zero => simp at e2
      | succ j => exact h3 j i u (by simpa using e1) (by simpa using e2)
  | v :: vs, .sl x :: rs, h => by
    obtain ⟨h1, h2, h3⟩ := vsok_get h.2
    refine ⟨by simp [h1], fun j u d e1 e2 => ?_, fun j i u e1 e2 => ?_⟩
    · cases j with
      | zero => simp at e2
      | succ j => exact h2 j u d (by simpa using e1) (by simpa using e2)
    · cases j with
      | zero =>
        have a1 : v = u := by simpa using e1
        have a2 : x = i := by simpa using e2
        rw [← a1, ← a2]; exact h.1
      | succ j => exact h3 j i u (by simpa using e1) (by simpa using e2)

section
variable {K : PySem.W.Frag} {c : Cn} {σ : L2.St} {W W' : Wd} {fs : Fs}
/-- behind a call: the borrowed slots hold what came back -/
theorem fr_after {rs : List Vx} {vs : List V} {args args' : List Sl} {ad : Nat → Addr} (q : FrA K c σ W fs ad) (ap : apart (loans fs rs) = true) (ea : argsOf fs rs = some args)
    (h : AfterOk K W W' args args' (fun j => match rs[j]? with | some (.sl i) => ad i | _ => 0)) : FrA K c σ W' (backs rs args' fs) ad := by
  obtain ⟨al, ag⟩ := argsOf_get ea
  -- an argument that is borrowed, by its slot
  have slotArg : ∀ (j i : Nat) (p : Bool) (d : D), rs[j]? = some (.sl i) → fs[i]? = some (.own p d) → args[j]? = some (.own true d) := fun j i p d e1 e2 => by
    have hj : j < args.length := by rw [al]; exact (List.getElem?_eq_some_iff.mp e1).1
    rcases ag j _ (List.getElem?_eq_getElem hj) with ⟨x, z1, _⟩ | ⟨k, x, z1, z2, _⟩ | ⟨k, b, x, z1, z2, z3⟩
    · rw [e1] at z1; cases z1
    · rw [e1] at z1; cases z1; rw [e2] at z2; cases z2
    · rw [e1] at z1; cases z1; rw [e2] at z2; cases z2
      rw [List.getElem?_eq_getElem hj, z3]
  have argSlot : ∀ (j : Nat) (d : D), args[j]? = some (.own true d) → ∃ i p, rs[j]? = some (.sl i) ∧ fs[i]? = some (.own p d) := fun j d e => by
    rcases ag j _ e with ⟨x, _, z⟩ | ⟨k, x, _, _, z⟩ | ⟨k, b, x, z1, z2, z3⟩
    · cases z
    · cases z
    · cases z3; exact ⟨k, b, z1, z2⟩
  -- what is not borrowed stands
  have stand : ∀ (i : Nat) (p : Bool) (d : D), fs[i]? = some (.own p d) → (∀ (j : Nat), rs[j]? ≠ some (.sl i)) → W'.H (ad i) = W.H (ad i) ∧ ¬ W'.F (ad i) := fun i p d e no => by
    obtain ⟨_, nf, ct⟩ := q.own e
    obtain ⟨o, ho, _⟩ := ct.mut
    refine ⟨?_, fun f => ?_⟩
    · rw [ho]
      refine h.keep _ o ho fun j x ej z => ?_
      obtain ⟨k, b, z1, z2⟩ := argSlot j x ej
      have z' : (match rs[j]? with | some (.sl i) => ad i | _ => 0) = ad i := z
      rw [z1] at z'
      have := q.sep k i _ _ _ _ z2 e z'
      subst this
      exact no j z1
    · rcases h.nF _ f with z | z
      · exact nf z
      · rw [ho] at z; cases z
  have keepAll : ∀ b o, W.H b = some o → (∀ (i : Nat) (p : Bool) (d : D), fs[i]? = some (.own p d) → ad i ≠ b) → W'.H b = some o := fun b o e no => h.keep b o e fun j x ej z => by
    obtain ⟨k, p, z1, z2⟩ := argSlot j x ej
    have z' : (match rs[j]? with | some (.sl i) => ad i | _ => 0) = b := z
    rw [z1] at z'
    exact no k p x z2 z'
  have back : ∀ (i : Nat) (p : Bool) (d : D), (backs rs args' fs)[i]? = some (.own p d) → ∃ d0, fs[i]? = some (.own p d0) := fun i p d e => by
    rcases backs_get rs args' fs i _ e with ⟨z, _⟩ | ⟨j, p', x, d', _, z2, _, z4⟩
    · exact ⟨d, z⟩
    · cases z4; exact ⟨x, z2⟩
  refine ⟨by rw [backs_len]; exact q.len, q.le.trans h.le, fun i s e => ?_, fun i j p r d e e1 e2 ee => ?_, fun b o e n => ?_, fun b f => (h.le.frf b (q.kF b f)).1, fun b f => ?_, h.dF, fun i d e => ?_, fun i d e => ?_, fun i a e => ?_, fun b o e => ?_⟩
  · rcases backs_get rs args' fs i s e with ⟨z1, z2⟩ | ⟨j, p, d, d', z1, z2, z3, z4⟩
    · have qs := q.slot i s z1
      cases s with
      | un => trivial
      | tp _ _ => exact qs.elim
      | dat d => obtain ⟨v, e1, r⟩ := qs; exact ⟨v, e1, r.mono h.le⟩
      | own p d =>
        obtain ⟨e1, _, ct⟩ := qs
        have no : ∀ (j : Nat), rs[j]? ≠ some (.sl i) := fun j ej => by
          obtain ⟨d', g1, _⟩ := h.own j d (slotArg j i p d ej z1)
          exact z2 j d' p d ej g1 z1
        obtain ⟨s1, s2⟩ := stand i p d z1 no
        exact ⟨e1, s2, ct.mono h.le s1⟩
    · subst z4
      obtain ⟨x, g1, g2, g3⟩ := h.own j d (slotArg j i p d z1 z2)
      rw [g1] at z3
      cases z3
      have pe : (match rs[j]? with | some (.sl i) => ad i | _ => 0) = ad i := by rw [z1]
      have g2' : ¬ W'.F (match rs[j]? with | some (.sl i) => ad i | _ => 0) := g2
      have g3' : Cont K W' (match rs[j]? with | some (.sl i) => ad i | _ => 0) d' := g3
      rw [pe] at g2' g3'
      exact ⟨(q.own z2).1, g2', g3'⟩
  · obtain ⟨d0, f1⟩ := back i p d e1
    obtain ⟨e0, f2⟩ := back j r e e2
    exact q.sep i j _ _ _ _ f1 f2 ee
  · refine keepAll b o (q.keep b o e n) fun i p d ei z => ?_
    subst z
    cases p with
    | true => exact n i (q.brw i d ei)
    | false => rw [q.loc i d ei] at e; cases e
  · rcases h.nF b f with z | z
    · exact q.nF b z
    · exact .inr (Fr.new0 ⟨ad, q⟩ z)
  · obtain ⟨d0, f1⟩ := back i _ d e
    exact q.loc i d0 f1
  · obtain ⟨d0, f1⟩ := back i _ d e
    exact q.brw i d0 f1
  · obtain ⟨z1, z2, d, z3⟩ := q.pin i a e
    refine ⟨z1, z2, ?_⟩
    have hl : i < (backs rs args' fs).length := by rw [backs_len]; exact (List.getElem?_eq_some_iff.mp z3).1
    rcases backs_get rs args' fs i _ (List.getElem?_eq_getElem hl) with ⟨y1, _⟩ | ⟨j, p, x, d', _, y2, _, y4⟩
    · rw [z3] at y1
      exact ⟨d, by rw [List.getElem?_eq_getElem hl]; exact y1.symm⟩
    · rw [z3] at y2; cases y2
      exact ⟨d', by rw [List.getElem?_eq_getElem hl, y4]⟩
  · obtain ⟨z1, z2, z3⟩ := q.kp b o e
    refine ⟨keepAll b o z1 z3, fun f => ?_, fun i p d ei => ?_⟩
    · rcases h.nF b f with z | z
      · exact z2 z
      · rw [z1] at z; cases z
    · obtain ⟨d0, f1⟩ := back i p d ei
      exact z3 i p d0 f1
theorem snd_call {Ec : L2.St → XK} {sp : ASp} {ta : TA} {a : AVs} (h : SndVs K Ec ta a) : SndX K Ec (tCallS (spOf K sp) Ec ta) (aCall sp a) := fun c σ W fs E Q Q' F A ha k => by
  refine h c σ W fs E _ _ F A ha fun vs rs W1 fs1 l1 F1 k1 q1 => ?_
  have q1' : (match apart (loans fs1 rs), argsOf fs1 rs with
    | true, some args => sp args (fun r args' => match resRx r with
        | some x => Q' x (backs rs args' fs1)
        | none => False) (fun cls xf args' => E cls xf (backs rs args' fs1))
    | _, _ => False) := q1
  split at q1'
  · rename_i args ap ea
    obtain ⟨ad, q⟩ := id F1
    obtain ⟨al, ag⟩ := argsOf_get ea
    obtain ⟨vl, v1, v2⟩ := vsok_get k1
    refine ⟨W1.F, args, fun j => match rs[j]? with | some (.sl i) => ad i | _ => 0, _, _, ⟨by rw [vl, al], fun i v s ev es => ?_, fun i j d e e1 e2 ee => ?_, F1.dF⟩, q1', fun v r args' W' af ro qq => ?_, fun cls od xf args' W' af xk qq => ?_⟩
    · rcases ag i s es with ⟨d, z1, rfl⟩ | ⟨k, d, z1, z2, rfl⟩ | ⟨k, p, d, z1, z2, rfl⟩
      · exact v1 i v d ev z1
      · obtain ⟨w, e1, r⟩ := q.dat z2
        rw [v2 i k v ev z1] at e1
        cases e1
        exact r
      · obtain ⟨e1, nf, ct⟩ := q.own z2
        rw [v2 i k v ev z1] at e1
        cases e1
        show V.ref (ad k) = .ref (match rs[i]? with | some (.sl i) => ad i | _ => 0) ∧ ¬ W1.F (match rs[i]? with | some (.sl i) => ad i | _ => 0) ∧ Cont K _ (match rs[i]? with | some (.sl i) => ad i | _ => 0) d
        rw [z1]
        exact ⟨rfl, nf, ct⟩
    · have f1 := ag i _ e1
      have f2 := ag j _ e2
      rcases f1 with ⟨_, _, z⟩ | ⟨_, _, _, _, z⟩ | ⟨k, p, x, z1, z2, z3⟩
      · cases z
      · cases z
      · rcases f2 with ⟨_, _, z⟩ | ⟨_, _, _, _, z⟩ | ⟨k', p', x', y1, y2, y3⟩
        · cases z
        · cases z
        · have ee' : (match rs[i]? with | some (.sl i) => ad i | _ => 0) = (match rs[j]? with | some (.sl i) => ad i | _ => 0) := ee
          rw [z1, y1] at ee'
          have := q.sep k k' _ _ _ _ z2 y2 ee'
          subst this
          exact loans_inj z2 ap z1 y1
    · have F2 : Fr K c σ W' (backs rs args' fs1) := ⟨ad, fr_after (vs := vs) q ap ea af⟩
      have qq' : (match resRx r with
        | some x => Q' x (backs rs args' fs1)
        | none => False) := qq
      cases r with
      | un => exact ro.elim
      | tp _ _ => exact qq'.elim
      | dat d => exact k v (.dt d) W' _ (l1.trans af.le) F2 ro qq'
      | own p d =>
        cases p with
        | true => exact ro.elim
        | false =>
          obtain ⟨p, rfl, n, nf, ct⟩ := ro
          refine k _ (.fr d) W' _ (l1.trans af.le) F2 ⟨p, rfl, F1.new0 n, nf, ct, fun i b x ei z => ?_, F1.newK n⟩ qq'
          rcases backs_get rs args' fs1 i _ ei with ⟨y1, _⟩ | ⟨j, b', y, d', _, y2, _, y4⟩
          · exact F1.newS n y1 z
          · exact F1.newS n y2 z
    · exact A σ W' _ cls od xf ⟨ad, fr_after (vs := vs) q ap ea af⟩ xk qq
  · exact q1'.elim
end

/-- a def of the text, as it stands behind the name x -/
structure FnC (P : Program) (w : World) (K : PySem.W.Frag) (mg : Str → Option Value) (base : Heap) (CX : CXT) (k : Nat) (x : Str) (sp : ASp) : Prop where
  ex : ∃ f fd ps, FnOk P w K mg base CX k f fd ps (spOf K sp) ∧ mg x = some (.ref f) ∧ PySem.W.keepIn K (.ref f) = true ∧ Binds K fd ps []
theorem FnC.mono {P : Program} {w : World} {K : PySem.W.Frag} {mg : Str → Option Value} {base : Heap} {CX : CXT} {j k : Nat} {x : Str} {sp : ASp} (h : FnC P w K mg base CX j x sp) (l : j ≤ k) : FnC P w K mg base CX k x sp :=
  let ⟨f, fd, ps, h1, h2⟩ := h.ex; ⟨f, fd, ps, h1.mono l, h2⟩
section
variable {X : Cx} {Ec : L2.St → XK} {CX : CXT} {k : Nat} {x : Str} {sp : ASp} {e : Expr} {es : List Expr} {t : TA} {as : List AX} {p pos : Pos}
theorem pass00 {σ : L2.St} : PassesAt CX0 X σ (Ec σ) := fun _ _ _ _ _ _ h => h.elim
/-- f(a, ..) -/
theorem ex_call (hf : FnC X.prog X.w X.K X.mg X.base CX k x sp) (hr : Room k X.A) (hx : ∀ σ, PassesAt CX X σ (Ec σ)) (ha : EVs X Ec (e :: es) (aVs as)) (hg : Gl X x := by rfl) (hdb : (x == ("__debug__" : Str)) = false := by decide)
    (he : starEach (e :: es) X.env = (false, eval e X.env) :: starEach es X.env := by rfl) (hpl : (backTo pos (starEach es X.env)).any (·.1) = false := by rfl) : EX X Ec (.Call (.Name x p) (e :: es) [] pos) (aCall sp (aVs as)) := by
  obtain ⟨f, fd, ps, h1, h2, h3, h4⟩ := hf.ex
  exact EXt.x ⟨pe_callS h1 hr hg h2 h3 h4 hx ha.p hdb he hpl, snd_call ha.s⟩
/-- .. of a def that lets nothing out -/
theorem ex_callN (hf : FnC X.prog X.w X.K X.mg X.base CX0 k x sp) (hr : Room k X.A) (ha : EVs X Ec (e :: es) (aVs as)) (hg : Gl X x := by rfl) (hdb : (x == ("__debug__" : Str)) = false := by decide)
    (he : starEach (e :: es) X.env = (false, eval e X.env) :: starEach es X.env := by rfl) (hpl : (backTo pos (starEach es X.env)).any (·.1) = false := by rfl) : EX X Ec (.Call (.Name x p) (e :: es) [] pos) (aCall sp (aVs as)) :=
  ex_call hf hr (fun _ _ _ _ _ _ _ h => h.elim) ha hg hdb he hpl
end
end G

namespace G
open PySem PySem.Spec PyProof.Rows L2
section
open PySem
theorem add_ll (l : Addr) (items : Array Value) (n : Nat) (b : Addr) (items2 : Array Value) (n2 : Nat) (s1 s2 : Array (Option Value)) (hc0 : items.size + items2.size ≤ sizeLine) :
    Meets (Builtin.«list.__add__» ⟨[.ref l, .ref b], []⟩) (fun _ R s => s.heap.get? l = some { cls := .type "list", dict := none, data := .seq items n, slots := s1 } ∧ s.heap.get? b = some { cls := .type "list", dict := none, data := .seq items2 n2, slots := s2 } ∧ R (.ok (.ret (Value.ref s.heap.objs.size))) { s with heap := s.heap.push { cls := Value.type "list", data := Data.seq (items ++ items2) }, toks := s.toks }) :=
  .of_wp fun prog w A R s h => by obtain ⟨hp, g, d, tk, os⟩ := s; obtain ⟨hl, hb, h⟩ := h; have g1 := AutoSeq1.idx_int; have g2 := AutoSeq1.sub_tuple_tuple; have g3 := AutoSeq1.sub_list_list; have g4 := AutoSeq1.sub_tuple_list; have g5 := AutoSeq1.sub_list_tuple; wp_walk using AutoSeq1.wpAny_loadPart' hl, AutoSeq1.wpAny_loadPart' hb; exact ⟨_, rfl, h⟩
theorem ext_lt (l : Addr) (items : Array Value) (n : Nat) (b : Addr) (items2 : Array Value) (n2 : Nat) (dd : Option Addr) (s2 : Array (Option Value)) (hs0 : ¬(!items.isEmpty && Builtin.List.listTooLong (items.size + items2.size)) = true) (hs1 : items.size ≤ sizeLine) (hs2 : items.size + items2.size ≤ sizeLine + 1) :
    Meets (Builtin.«list.extend» ⟨[.ref l, .ref b], []⟩) (fun _ R s => s.heap.get? l = some { cls := .type "list", dict := none, data := .seq items n, slots := #[] } ∧ s.heap.get? b = some { cls := .type "tuple", dict := dd, data := .seq items2 n2, slots := s2 } ∧ R (.ok (.ret Value.none)) { s with heap := s.heap.update l (Obj.mapSeq fun x => x ++ items2), toks := s.toks }) :=
  .of_wp fun prog w A R s h => by
    obtain ⟨hp, g, d, tk, os⟩ := s; obtain ⟨hl, hb, h⟩ := h; have g1 := AutoSeq1.idx_int; have g2 := AutoSeq1.sub_tuple_tuple; have g3 := AutoSeq1.sub_list_list; have g4 := AutoSeq1.sub_tuple_list; have g5 := AutoSeq1.sub_list_tuple;
    have hz2 : (items ++ items2).size ≤ sizeLine + 1 := by rw [Array.size_append] <;> exact hs2
    wp_walk using (wpAny_updateSeq hl rfl (hz := hs1) (_hz' := hz2)), AutoSeq1.wpAny_loadPart' hl, AutoSeq1.wpAny_loadPart' hb; exact ⟨_, rfl, h⟩
theorem ext_ll (l : Addr) (items : Array Value) (n : Nat) (b : Addr) (items2 : Array Value) (n2 : Nat) (s2 : Array (Option Value)) (hs0 : ¬(!items.isEmpty && Builtin.List.listTooLong (items.size + items2.size)) = true) (hs1 : items.size ≤ sizeLine) (hs2 : items.size + items2.size ≤ sizeLine + 1) :
    Meets (Builtin.«list.extend» ⟨[.ref l, .ref b], []⟩) (fun _ R s => s.heap.get? l = some { cls := .type "list", dict := none, data := .seq items n, slots := #[] } ∧ s.heap.get? b = some { cls := .type "list", dict := none, data := .seq items2 n2, slots := s2 } ∧ R (.ok (.ret Value.none)) { s with heap := s.heap.update l (Obj.mapSeq fun x => x ++ items2), toks := s.toks }) :=
  .of_wp fun prog w A R s h => by
    obtain ⟨hp, g, d, tk, os⟩ := s; obtain ⟨hl, hb, h⟩ := h; have g1 := AutoSeq1.idx_int; have g2 := AutoSeq1.sub_tuple_tuple; have g3 := AutoSeq1.sub_list_list; have g4 := AutoSeq1.sub_tuple_list; have g5 := AutoSeq1.sub_list_tuple;
    have hz2 : (items ++ items2).size ≤ sizeLine + 1 := by rw [Array.size_append] <;> exact hs2
    wp_walk using (wpAny_updateSeq hl rfl (hz := hs1) (_hz' := hz2)), AutoSeq1.wpAny_loadPart' hl, AutoSeq1.wpAny_loadPart' hb; exact ⟨_, rfl, h⟩
end
end G

namespace G
open PySem PySem.Spec PyProof.Rows L2

def ar1 (f : D → (Zx → Prop) → Prop) (ds : List D) (Q : Zx → Prop) : Prop := match ds with
  | [d] => f d Q
  | _ => False
def ar2 (f : AR2) (ds : List D) (Q : Zx → Prop) : Prop := match ds with
  | [d, e] => f d e Q
  | _ => False
theorem zx0 {K : PySem.W.Frag} {W : Wd} {v : V} {x : D} (h : Rep K W v x) : ZxOk K W ⟨W.H, W.F⟩ v (.dt x) := h
section
variable {X : Cx}
theorem opr_or {f : Value → Value → Sem Value} {r1 r2 : R2} (h1 : OpR X f r1) (h2 : OpR X f r2) : OpR X f (fun x y H Q => r1 x y H Q ∨ r2 x y H Q) := fun pins s σ H x y v u Q I rx ry h => by
  rcases h with h | h
  · exact h1 pins s σ H x y v u Q I rx ry h
  · exact h2 pins s σ H x y v u Q I rx ry h

/-! + -/
def rCatL (K : PySem.W.Frag) : R2 := fun x y H Q => ∃ a b xs ys, x = .ref a ∧ y = .ref b ∧ SqL K H a xs ∧ SqL K H b ys ∧ xs.length + ys.length ≤ sizeLine ∧ ∀ p, H p = none → Q (.ref p) (upd H p (.lst (xs ++ ys)))
theorem op_catL : OpR X (binaryOp .Add) (rCatL X.K) := by
  intro pins s σ H x y v u Q I rx ry h
  obtain ⟨a, b, xs, ys, rfl, rfl, ha, hb, hz, q⟩ := h
  cases rx
  cases ry
  obtain ⟨its, r, ⟨⟨c1, d1, t1, s1⟩, n1, e1, hc1, hd1, ht1⟩, _⟩ := I.list ha
  obtain ⟨its2, r2, ⟨⟨c2, d2, t2, s2⟩, n2, e2, hc2, hd2, ht2⟩, _⟩ := I.list hb
  simp only at hc1 hd1 ht1 hc2 hd2 ht2
  subst hc1 hd1 ht1 hc2 hd2 ht2
  have hl := r.length
  have hl2 := r2.length
  refine concat_meets ⟨_, e1, rfl⟩ ⟨_, e2, rfl⟩ noFill_list_add seq_list_add F.slot_list_add F.entry_list_add (F.args_list_add_2 _ _) (add_ll a its.toArray n1 b its2.toArray n2 s1 s2 (by rw [List.size_toArray, List.size_toArray]; omega)) ⟨e1, e2, ?_⟩
  have ea : its.toArray ++ its2.toArray = (its ++ its2).toArray := by simp
  rw [ea]
  exact ⟨.ref _, _, I.lnew (t' := s.toks) (r.append r2) (by rw [List.length_append]; omega), rfl, q _ I.fresh⟩
def rAddA (K : PySem.W.Frag) : R2 := fun x y H Q => (rI0 (fun i j => .int (i + j)) x y H Q ∨ ∃ i j, x = .str i ∧ y = .str j ∧ i.length + j.length ≤ sizeLine ∧ Q (.str (i ++ j)) H) ∨ rCatA K x y H Q ∨ rCatL K x y H Q
theorem op_addA : OpR X (binaryOp .Add) (rAddA X.K) := opr_or (opr_or op_add op_add_str) (opr_or op_catA op_catL)
def arAdd (d e : D) (Q : Zx → Prop) : Prop := match d, e with
  | .int i, .int j => Q (.dt (.int (i + j)))
  | .str x, .str y => x.length + y.length ≤ sizeLine ∧ Q (.dt (.str (x ++ y)))
  | .tup xs, .tup ys => xs.length + ys.length ≤ sizeLine ∧ Q (.dt (.tup (xs ++ ys)))
  | .lst xs, .lst ys => xs.length + ys.length ≤ sizeLine ∧ Q (.fr (.lst (xs ++ ys)))
  | _, _ => False
theorem op2_add {K : PySem.W.Frag} : Op2 K (rAddA K) arAdd := fun W x y d e Q Q' dF hx hy h k => by
  unfold arAdd at h
  split at h
  · cases hx.int; cases hy.int
    exact .inl (.inl ⟨_, _, rfl, rfl, k _ _ W.H (Exs.refl _) (zx0 (.int _)) h⟩)
  · cases hx.str; cases hy.str
    exact .inl (.inr ⟨_, _, rfl, rfl, h.1, k _ _ W.H (Exs.refl _) (zx0 (.str _)) h.2⟩)
  · rename_i xs ys
    obtain ⟨a, vs, rfl, ha, ra⟩ := hx.tup
    obtain ⟨b, us, rfl, hb, rb⟩ := hy.tup
    refine .inr (.inl ⟨a, b, vs, us, rfl, rfl, ha, hb, by rw [ra.len, rb.len]; exact h.1, fun e => ?_, fun _ e => ?_, fun _ _ p np => ?_⟩)
    · subst e
      cases ra
      exact k _ (.dt (.tup ys)) W.H (Exs.refl _) (zx0 (.tup hb rb)) h.2
    · subst e
      cases rb
      refine k _ (.dt (.tup (xs ++ []))) W.H (Exs.refl _) (zx0 ?_) h.2
      rw [List.append_nil]
      exact .tup ha ra
    · exact k _ (.dt (.tup (xs ++ ys))) _ (Exs.new np) (.tup (.inl (.inl upd_same)) ((ra.app rb).mono (Le.grow (Exs.new np) dF))) h.2
  · rename_i xs ys
    obtain ⟨a, vs, rfl, ha, ra⟩ := hx.lst
    obtain ⟨b, us, rfl, hb, rb⟩ := hy.lst
    refine .inr (.inr ⟨a, b, vs, us, rfl, rfl, ha, hb, by rw [ra.len, rb.len]; exact h.1, fun p np => ?_⟩)
    exact k _ (.fr (.lst (xs ++ ys))) _ (Exs.new np) ⟨p, rfl, np, fun f => dF p f np, vs ++ us, upd_same, (ra.app rb).mono (Le.grow (Exs.new np) dF)⟩ h.2
  · exact h.elim

/-! arithmetic -/
def arI (C : Int → Int → Prop) (g : Int → Int → D) (d e : D) (Q : Zx → Prop) : Prop := match d, e with
  | .int i, .int j => C i j ∧ Q (.dt (g i j))
  | _, _ => False
def arI0 (g : Int → Int → D) (d e : D) (Q : Zx → Prop) : Prop := match d, e with
  | .int i, .int j => Q (.dt (g i j))
  | _, _ => False
theorem op2_I {K : PySem.W.Frag} {C : Int → Int → Prop} {f : Int → Int → V} {g : Int → Int → D} (hg : ∀ i j W, Rep K W (f i j) (g i j)) : Op2 K (rI C f) (arI C g) := fun W x y d e Q Q' dF hx hy h k => by
  unfold arI at h
  split at h
  · cases hx.int; cases hy.int
    exact ⟨_, _, rfl, rfl, h.1, k _ _ W.H (Exs.refl _) (zx0 (hg _ _ W)) h.2⟩
  · exact h.elim
theorem op2_I0 {K : PySem.W.Frag} {f : Int → Int → V} {g : Int → Int → D} (hg : ∀ i j W, Rep K W (f i j) (g i j)) : Op2 K (rI0 f) (arI0 g) := fun W x y d e Q Q' dF hx hy h k => by
  unfold arI0 at h
  split at h
  · cases hx.int; cases hy.int
    exact ⟨_, _, rfl, rfl, k _ _ W.H (Exs.refl _) (zx0 (hg _ _ W)) h⟩
  · exact h.elim
def arSub (d e : D) (Q : Zx → Prop) : Prop := arI0 (fun i j => .int (i - j)) d e Q
def arMul (d e : D) (Q : Zx → Prop) : Prop := arI CMul (fun i j => .int (i * j)) d e Q
def arDiv (d e : D) (Q : Zx → Prop) : Prop := arI CDiv (fun i j => .int (i / j)) d e Q
def arMod (d e : D) (Q : Zx → Prop) : Prop := arI (fun _ j => 0 < j) (fun i j => .int (i % j)) d e Q
def arPow (d e : D) (Q : Zx → Prop) : Prop := arI CPow (fun i j => .int (i ^ j.toNat)) d e Q

/-! equality -/
mutual
def py : D → PyData
  | .non => .none
  | .bl b => .bool b
  | .int i => .int i
  | .str x => .str x
  | .tup xs => .tuple (pys xs)
  | .lst xs => .list (pys xs)
  | .dct _ _ => .dict []
  | .obj _ _ _ => .dict []
  | .exc _ _ _ => .dict []
  | .oth _ => .dict []
def pys : List D → List PyData
  | [] => []
  | x :: xs => py x :: pys xs
end
mutual
theorem rep_dp {K : PySem.W.Frag} {W : Wd} : ∀ {v : V} {d : D}, Rep K W v d → (py d).canLay0 = true → Dp K W.H v (py d)
  | _, _, .non, _ => .non
  | _, _, .bl b, _ => .bl b
  | _, _, .int i, _ => .int i
  | _, _, .str x, _ => .str x
  | _, _, .tup h r, e => .tup h (reps_dp r (by simpa only [py, PyData.canLay0] using e))
  | _, _, .lst _ h r, e => .lst (.inl h) (reps_dp r (by simpa only [py, PyData.canLay0] using e))
  | _, _, .lstK h r, e => .lst (.inr h) (reps_dp r (by simpa only [py, PyData.canLay0] using e))
  | _, _, .dct .., e => by simp [py, PyData.canLay0] at e
  | _, _, .obj .., e => by simp [py, PyData.canLay0] at e
  | _, _, .exc0 .., e => by simp [py, PyData.canLay0] at e
  | _, _, .exc .., e => by simp [py, PyData.canLay0] at e
  | _, _, .oth _, e => by simp [py, PyData.canLay0] at e
theorem reps_dp {K : PySem.W.Frag} {W : Wd} : ∀ {vs : List V} {ds : List D}, Reps K W vs ds → PyData.canLayAll0 (pys ds) = true → DpAll K W.H vs (pys ds)
  | _, _, .nil, _ => .nil
  | _, _, .cons (d := d) (ds := ds) h r, e => by
    have e' : (py d).canLay0 = true ∧ PyData.canLayAll0 (pys ds) = true := by simpa only [pys, PyData.canLayAll0, Bool.and_eq_true] using e
    exact .cons (rep_dp h e'.1) (reps_dp r e'.2)
end
theorem vw_dp {K : PySem.W.Frag} {W : Wd} {v : V} {d : D} (h : Vw K W v d) (e : SeqAt.shaped (py d) = true) : Dp K W.H v (py d) := by
  have c := SeqAt.canLay_of_shaped e
  rcases h with h | ⟨a, rfl, ct⟩
  · exact rep_dp h c
  · cases d with
    | lst ds =>
      obtain ⟨vs, q, r⟩ := ct
      exact .lst (.inl (.inl q)) (reps_dp r (by simpa only [py, PyData.canLay0] using c))
    | dct ks vs => simp [py, PyData.canLay0] at c
    | obj C ns vs => simp [py, PyData.canLay0] at c
    | _ => exact ct.elim
def scalE : D → D → Option Bool
  | .int i, .int j => some (decide (i = j))
  | .str i, .str j => some (decide (i = j))
  | .bl i, .bl j => some (decide (i = j))
  | .non, .non => some true
  | .non, .int _ => some false | .int _, .non => some false
  | .non, .bl _ => some false | .bl _, .non => some false
  | .non, .str _ => some false | .str _, .non => some false
  | .int _, .str _ => some false | .str _, .int _ => some false
  | .bl _, .str _ => some false | .str _, .bl _ => some false
  | _, _ => none
def eqD (d e : D) : Bool := PyData.eqv (py d) (py e)
def arEq (d e : D) (Q : Zx → Prop) : Prop := match scalE d e with
  | some b => Q (.dt (.bl b))
  | none => SeqAt.shaped (py d) = true ∧ SeqAt.shaped (py e) = true ∧ Q (.dt (.bl (eqD d e)))
def arNe (d e : D) (Q : Zx → Prop) : Prop := match scalE d e with
  | some b => Q (.dt (.bl (!b)))
  | none => SeqAt.shaped (py d) = true ∧ SeqAt.shaped (py e) = true ∧ Q (.dt (.bl (!eqD d e)))
theorem scal_view {K : PySem.W.Frag} {W : Wd} {x y : V} {d e : D} {b : Bool} (hx : Vw K W x d) (hy : Vw K W y e) (h : scalE d e = some b) : scal x y = true ∧ decide (x = y) = b := by
  unfold scalE at h
  split at h <;> first
    | (cases h; cases hx.int; cases hy.int; exact ⟨rfl, by simp⟩)
    | (cases h; cases hx.str; cases hy.str; exact ⟨rfl, by simp⟩)
    | (cases h; cases hx.bl; cases hy.bl; exact ⟨rfl, by simp⟩)
    | (cases h; cases hx.non; cases hy.non; exact ⟨rfl, by simp⟩)
    | (cases h; cases hx.non; cases hy.int; exact ⟨rfl, by simp⟩)
    | (cases h; cases hx.int; cases hy.non; exact ⟨rfl, by simp⟩)
    | (cases h; cases hx.non; cases hy.bl; exact ⟨rfl, by simp⟩)
    | (cases h; cases hx.bl; cases hy.non; exact ⟨rfl, by simp⟩)
    | (cases h; cases hx.non; cases hy.str; exact ⟨rfl, by simp⟩)
    | (cases h; cases hx.str; cases hy.non; exact ⟨rfl, by simp⟩)
    | (cases h; cases hx.int; cases hy.str; exact ⟨rfl, by simp⟩)
    | (cases h; cases hx.str; cases hy.int; exact ⟨rfl, by simp⟩)
    | (cases h; cases hx.bl; cases hy.str; exact ⟨rfl, by simp⟩)
    | (cases h; cases hx.str; cases hy.bl; exact ⟨rfl, by simp⟩)
    | cases h
def rEqA (K : PySem.W.Frag) : R2 := fun x y H Q => rEq x y H Q ∨ rEqD K x y H Q
def rNeA (K : PySem.W.Frag) : R2 := fun x y H Q => rNe x y H Q ∨ rNeD K x y H Q
theorem op_eqA (hu : X.A.units + 64 < cLine) : OpR X (compareOp .Eq) (rEqA X.K) := opr_or op_eq (op_eqD hu)
theorem op_neA (hu : X.A.units + 64 < cLine) : OpR X (compareOp .NotEq) (rNeA X.K) := opr_or op_ne (op_neD hu)
theorem op2_eq {K : PySem.W.Frag} : Op2 K (rEqA K) arEq := fun W x y d e Q Q' dF hx hy h k => by
  unfold arEq at h
  split at h
  · rename_i b eb
    obtain ⟨h1, h2⟩ := scal_view hx hy eb
    exact .inl ⟨h1, by rw [h2]; exact k _ _ W.H (Exs.refl _) (zx0 (.bl b)) h⟩
  · exact .inr ⟨py d, py e, vw_dp hx h.1, vw_dp hy h.2.1, h.1, h.2.1, k _ _ W.H (Exs.refl _) (zx0 (.bl _)) h.2.2⟩
theorem op2_ne {K : PySem.W.Frag} : Op2 K (rNeA K) arNe := fun W x y d e Q Q' dF hx hy h k => by
  unfold arNe at h
  split at h
  · rename_i b eb
    obtain ⟨h1, h2⟩ := scal_view hx hy eb
    exact .inl ⟨h1, by rw [h2]; exact k _ _ W.H (Exs.refl _) (zx0 (.bl (!b))) h⟩
  · exact .inr ⟨py d, py e, vw_dp hx h.1, vw_dp hy h.2.1, h.1, h.2.1, k _ _ W.H (Exs.refl _) (zx0 (.bl _)) h.2.2⟩

/-! order of ints -/
def arLt (d e : D) (Q : Zx → Prop) : Prop := arI0 (fun i j => .bl (decide (i < j))) d e Q
def arLe (d e : D) (Q : Zx → Prop) : Prop := arI0 (fun i j => .bl (decide (i ≤ j))) d e Q
def arGt (d e : D) (Q : Zx → Prop) : Prop := arI0 (fun i j => .bl (decide (i > j))) d e Q
def arGe (d e : D) (Q : Zx → Prop) : Prop := arI0 (fun i j => .bl (decide (i ≥ j))) d e Q

/-! is -/
def isNonD : D → Option Bool
  | .non => some true
  | .oth _ => none
  | _ => some false
theorem isNon_view {K : PySem.W.Frag} {W : Wd} {x : V} {d : D} {b : Bool} (hx : Vw K W x d) (h : isNonD d = some b) : decide (x = .non) = b := by
  rcases hx with hx | ⟨a, rfl, ct⟩
  · cases hx <;> first | (cases h; simp) | cases h
  · cases d <;> first | exact ct.elim | (cases h; simp)
def arIsN (d e : D) (Q : Zx → Prop) : Prop := match d, e with
  | .bl a, .bl b => Q (.dt (.bl (decide (a = b))))
  | d, .non => match isNonD d with
    | some b => Q (.dt (.bl b))
    | none => False
  | _, _ => False
def arNotN (d e : D) (Q : Zx → Prop) : Prop := match d, e with
  | .bl a, .bl b => Q (.dt (.bl (!decide (a = b))))
  | d, .non => match isNonD d with
    | some b => Q (.dt (.bl (!b)))
    | none => False
  | _, _ => False
def rIsA : R2 := fun x y H Q => (y = .non ∧ Q (.bl (decide (x = .non))) H) ∨ rIsB x y H Q
def rNotA : R2 := fun x y H Q => (y = .non ∧ Q (.bl (!decide (x = .non))) H) ∨ rNotB x y H Q
theorem op_isA : OpR X (compareOp .Is) rIsA := opr_or op_isN op_isBl
theorem op_notA : OpR X (compareOp .IsNot) rNotA := opr_or op_notN op_notBl
theorem op2_is {K : PySem.W.Frag} : Op2 K rIsA arIsN := fun W x y d e Q Q' dF hx hy h k => by
  unfold arIsN at h
  split at h
  · cases hx.bl; cases hy.bl
    exact .inr ⟨_, _, rfl, rfl, k _ _ W.H (Exs.refl _) (zx0 (.bl _)) h⟩
  · split at h
    · rename_i b eb
      cases hy.non
      exact .inl ⟨rfl, by rw [isNon_view hx eb]; exact k _ _ W.H (Exs.refl _) (zx0 (.bl b)) h⟩
    · exact h.elim
  · exact h.elim
theorem op2_not {K : PySem.W.Frag} : Op2 K rNotA arNotN := fun W x y d e Q Q' dF hx hy h k => by
  unfold arNotN at h
  split at h
  · cases hx.bl; cases hy.bl
    exact .inr ⟨_, _, rfl, rfl, k _ _ W.H (Exs.refl _) (zx0 (.bl _)) h⟩
  · split at h
    · rename_i b eb
      cases hy.non
      exact .inl ⟨rfl, by rw [isNon_view hx eb]; exact k _ _ W.H (Exs.refl _) (zx0 (.bl (!b))) h⟩
    · exact h.elim
  · exact h.elim

/-! in: a sign in a text, a flat thing in a list, a tuple; a key in a dict -/
def flatD : D → Bool
  | .non => true | .bl _ => true | .int _ => true | .str _ => true | _ => false
def toV : D → V
  | .non => .non | .bl b => .bl b | .int i => .int i | .str x => .str x | .oth v => v | _ => .non
theorem flat_view {K : PySem.W.Frag} {W : Wd} {x : V} {d : D} (h : Vw K W x d) (f : flatD d = true) : x = toV d ∧ flatV x = true := by
  cases d with
  | non => cases h.non; exact ⟨rfl, rfl⟩
  | bl b => cases h.bl; exact ⟨rfl, rfl⟩
  | int b => cases h.int; exact ⟨rfl, rfl⟩
  | str b => cases h.str; exact ⟨rfl, rfl⟩
  | _ => cases f
theorem flats_view {K : PySem.W.Frag} {W : Wd} : ∀ {vs : List V} {ds : List D}, Reps K W vs ds → ds.all flatD = true → vs = ds.map toV ∧ vs.all flatV = true
  | _, _, .nil, _ => ⟨rfl, rfl⟩
  | _, _, .cons h r, f => by
    simp only [List.all_cons, Bool.and_eq_true] at f
    obtain ⟨h1, h2⟩ := flat_view (.inl h) f.1
    obtain ⟨h3, h4⟩ := flats_view r f.2
    exact ⟨by rw [h1, h3]; rfl, by simp only [List.all_cons, h2, h4]; rfl⟩
def inD (d : D) (ds : List D) : Bool := inV (toV d) (ds.map toV)
def keyD : D → Option Key
  | .int i => some (.inl i)
  | .str x => some (.inr x)
  | _ => none
def memK (k : Key) (ks : List Key) : Bool := ks.any fun a => decide (a = k)
def lookK (k : Key) : List Key → List D → Option D
  | a :: ks, d :: ds => if a = k then some d else lookK k ks ds
  | _, _ => none
def arIn (neg : Bool) (d e : D) (Q : Zx → Prop) : Prop := match d, e with
  | .str x, .str z => match x.cps.toList with
    | [c] => Q (.dt (.bl (if neg then !decide (c ∈ z.cps.toList) else decide (c ∈ z.cps.toList))))
    | _ => False
  | d, .tup ds => flatD d = true ∧ ds.all flatD = true ∧ Q (.dt (.bl (if neg then !inD d ds else inD d ds)))
  | d, .lst ds => flatD d = true ∧ ds.all flatD = true ∧ Q (.dt (.bl (if neg then !inD d ds else inD d ds)))
  | d, .dct ks _ => match keyD d with
    | some k => Q (.dt (.bl (if neg then !memK k ks else memK k ks)))
    | none => False
  | _, _ => False
def rSignIn (neg : Bool) : R2 := fun x y H Q => ∃ (c : Nat) (z : Str), x = .str ⟨#[c]⟩ ∧ y = .str z ∧ Q (.bl (if neg then !decide (c ∈ z.cps.toList) else decide (c ∈ z.cps.toList))) H
def rKeyIn (neg : Bool) : R2 := fun x y H Q => ∃ a o, y = .ref a ∧ DGet H a x o ∧ Q (.bl (if neg then !o.isSome else o.isSome)) H
def rInA (K : PySem.W.Frag) (neg : Bool) : R2 := fun x y H Q => rSignIn neg x y H Q ∨ rIn K neg x y H Q ∨ rKeyIn neg x y H Q
theorem op_signIn : OpR X (compareOp .In) (rSignIn false) := op_in_sign
theorem op_signNotIn : OpR X (compareOp .NotIn) (rSignIn true) := op_notIn_sign
theorem op_keyIn (hu : X.A.units + 1 < cLine) : OpR X (compareOp .In) (rKeyIn false) := fun pins s σ H x y v u Q I rx ry ⟨a, o, e, g, q⟩ => by
  subst e
  obtain rfl : u = Value.ref a := ry
  exact d_in hu I g rx fun s3 I3 => ⟨.bl o.isSome, H, I3, rfl, q⟩
theorem op_keyNotIn (hu : X.A.units + 1 < cLine) : OpR X (compareOp .NotIn) (rKeyIn true) := fun pins s σ H x y v u Q I rx ry ⟨a, o, e, g, q⟩ => by
  subst e
  obtain rfl : u = Value.ref a := ry
  exact d_notIn hu I g rx fun s3 I3 => ⟨.bl (!o.isSome), H, I3, rfl, q⟩
theorem op_inA (hu : X.A.units + 1 < cLine) : OpR X (compareOp .In) (rInA X.K false) := opr_or op_signIn (opr_or op_in_seq (op_keyIn hu))
theorem op_notInA (hu : X.A.units + 1 < cLine) : OpR X (compareOp .NotIn) (rInA X.K true) := opr_or op_signNotIn (opr_or op_notIn_seq (op_keyNotIn hu))
theorem Vw.dct {K : PySem.W.Frag} {W : Wd} {v : V} {ks : List Key} {ds : List D} (h : Vw K W v (.dct ks ds)) : ∃ (a : Addr) (kvs : List (Key × V)), v = .ref a ∧ W.H a = some (.dK kvs) ∧ kvs.map (·.1) = ks ∧ Reps K W (kvs.map (·.2)) ds := by
  rcases h with h | ⟨a, rfl, kvs, q, n, r⟩
  · cases h with
    | dct f q r => exact ⟨_, _, rfl, q, rfl, r⟩
  · exact ⟨a, kvs, rfl, q, n, r⟩
theorem keyD_view {K : PySem.W.Frag} {W : Wd} {x : V} {d : D} {k : Key} (h : Vw K W x d) (e : keyD d = some k) : x = L2.kV k := by
  unfold keyD at e
  split at e
  · cases e; exact h.int
  · cases e; exact h.str
  · cases e
theorem valV_some {kvs : List (Key × V)} {k : Key} : (valV kvs k).isSome = memK k (kvs.map (·.1)) := by
  unfold valV memK
  rw [Option.isSome_map, List.isSome_find?, List.any_map]
  rfl
theorem op2_in {K : PySem.W.Frag} {neg : Bool} : Op2 K (rInA K neg) (arIn neg) := fun W x y d e Q Q' dF hx hy h k => by
  unfold arIn at h
  split at h
  · rename_i x' z
    split at h
    · rename_i c ec
      cases hx.str; cases hy.str
      have : x' = ⟨#[c]⟩ := by
        obtain ⟨a⟩ := x'
        have : a = #[c] := Array.toList_inj.mp ec
        rw [this]
      subst this
      exact .inl ⟨c, z, rfl, rfl, k _ _ W.H (Exs.refl _) (zx0 (.bl _)) h⟩
    · exact h.elim
  · rename_i ds _
    obtain ⟨a, vs, rfl, ha, ra⟩ := hy.tup
    obtain ⟨h1, h2⟩ := flat_view hx h.1
    obtain ⟨h3, h4⟩ := flats_view ra h.2.1
    refine .inr (.inl ⟨a, vs, rfl, .inr ha, h2, h4, ?_⟩)
    rw [h1, h3]
    exact k _ _ W.H (Exs.refl _) (zx0 (.bl _)) h.2.2
  · rename_i ds _
    obtain ⟨a, vs, rfl, ha, ra⟩ := hy.lst
    obtain ⟨h1, h2⟩ := flat_view hx h.1
    obtain ⟨h3, h4⟩ := flats_view ra h.2.1
    refine .inr (.inl ⟨a, vs, rfl, .inl ha, h2, h4, ?_⟩)
    rw [h1, h3]
    exact k _ _ W.H (Exs.refl _) (zx0 (.bl _)) h.2.2
  · split at h
    · rename_i kk ek
      obtain ⟨a, kvs, rfl, q, n, r⟩ := hy.dct
      have := keyD_view hx ek
      subst this
      refine .inr (.inr ⟨a, _, rfl, DGet.k q, ?_⟩)
      rw [valV_some, n]
      exact k _ _ W.H (Exs.refl _) (zx0 (.bl _)) h
    · exact h.elim
  · exact h.elim

/-! a[i] -/
def arIx (d e : D) (Q : Zx → Prop) : Prop := match d, e with
  | .lst ds, .int i => match atI ds i with
    | some z => Q (.dt z)
    | none => False
  | .tup ds, .int i => match atI ds i with
    | some z => Q (.dt z)
    | none => False
  | .str x, .int i => x.length ≤ sizeLine ∧ match atI x.cps.toList i with
    | some c => Q (.dt (.str ⟨#[c]⟩))
    | none => False
  | .dct ks ds, e => match keyD e with
    | some k => match lookK k ks ds with
      | some z => Q (.dt z)
      | none => False
    | none => False
  | _, _ => False
theorem ixn_len {α β : Type} {xs : List α} {ys : List β} (h : xs.length = ys.length) (i : Int) : ixN xs.length i = ixN ys.length i := by rw [h]
theorem reps_at {K : PySem.W.Frag} {W : Wd} {vs : List V} {ds : List D} {i : Int} {z : D} (r : Reps K W vs ds) (e : atI ds i = some z) : ∃ v, atI vs i = some v ∧ Rep K W v z := by
  unfold atI at e ⊢
  rw [r.len]
  cases hi : ixN ds.length i with
  | none => rw [hi] at e; cases e
  | some j =>
    rw [hi] at e
    exact r.get (show ds[j]? = some z from e)
def rDGet : R2 := fun x y H Q => ∃ a v, x = .ref a ∧ DGet H a y (some v) ∧ Q v H
theorem ix_dget (hu : X.A.units + 1 < cLine) : IxR X rDGet := by
  intro value slice pins s σ H x y v u Q I rx ry h hs
  obtain ⟨a, z, rfl, g, q⟩ := h
  obtain rfl : v = Value.ref a := rx
  exact tail_any (dict_typeIs I g) PySem.F.slot_dict_getitem.lookup (d_getItem hu I g ry fun w' s3 I3 rw' => ⟨z, H, I3, rw', q⟩) hs
def rIxA (K : PySem.W.Frag) : R2 := fun x y H Q => rIx K x y H Q ∨ rDGet x y H Q
theorem ix_any (hu : X.A.units + 1 < cLine) : IxR X (rIxA X.K) := ix_seq.or (ix_dget hu)
theorem valV_lookup {K : PySem.W.Frag} {W : Wd} : ∀ {kvs : List (Key × V)} {ds : List D} {k : Key} {z : D}, Reps K W (kvs.map (·.2)) ds → lookK k (kvs.map (·.1)) ds = some z → ∃ v, valV kvs k = some v ∧ Rep K W v z
  | [], _, _, _, _, e => by cases e
  | (a, v) :: r, [], _, _, h, _ => by cases h
  | (a, v) :: r, d :: ds, k, z, h, e => by
    cases h with
    | cons h1 h2 =>
    have e2 : (if a = k then some d else lookK k (r.map (·.1)) ds) = some z := e
    by_cases hk : a = k
    · rw [if_pos hk] at e2
      cases e2
      refine ⟨v, ?_, h1⟩
      unfold valV
      rw [List.find?_cons_of_pos (by simpa using hk)]
      rfl
    · rw [if_neg hk] at e2
      obtain ⟨w, w1, w2⟩ := valV_lookup h2 e2
      refine ⟨w, ?_, w2⟩
      unfold valV at w1 ⊢
      rw [List.find?_cons_of_neg (by simpa using hk)]
      exact w1
theorem op2_ix {K : PySem.W.Frag} : Op2 K (rIxA K) arIx := fun W x y d e Q Q' dF hx hy h k => by
  unfold arIx at h
  split at h
  · split at h
    · rename_i z ez
      obtain ⟨a, vs, rfl, ha, ra⟩ := hx.lst
      cases hy.int
      obtain ⟨v, e1, r1⟩ := reps_at ra ez
      exact .inl (.inl ⟨a, vs, _, v, rfl, rfl, ha, e1, k _ _ W.H (Exs.refl _) (zx0 r1) h⟩)
    · exact h.elim
  · split at h
    · rename_i z ez
      obtain ⟨a, vs, rfl, ha, ra⟩ := hx.tup
      cases hy.int
      obtain ⟨v, e1, r1⟩ := reps_at ra ez
      exact .inl (.inr (.inl ⟨a, vs, _, v, rfl, rfl, ha, e1, k _ _ W.H (Exs.refl _) (zx0 r1) h⟩))
    · exact h.elim
  · obtain ⟨hz, h⟩ := h
    split at h
    · rename_i c ec
      cases hx.str; cases hy.int
      exact .inl (.inr (.inr ⟨_, _, c, rfl, rfl, hz, ec, k _ _ W.H (Exs.refl _) (zx0 (.str _)) h⟩))
    · exact h.elim
  · split at h
    · rename_i kk ek
      split at h
      · rename_i z ez
        obtain ⟨a, kvs, rfl, q, n, r⟩ := hx.dct
        have := keyD_view hy ek
        subst this
        subst n
        obtain ⟨v, e1, r1⟩ := valV_lookup r ez
        exact .inr ⟨a, v, rfl, by rw [← e1]; exact DGet.k q, k _ _ W.H (Exs.refl _) (zx0 r1) h⟩
      · exact h.elim
    · exact h.elim
  · exact h.elim
end
end G

namespace G
open PySem PySem.Spec PyProof.Rows L2

/-! slices -/
abbrev AO := XP → Fs → (Option Int → Fs → Prop) → Prop
def SndO (K : PySem.W.Frag) (Ec : L2.St → XK) (t : TO) (a : AO) : Prop :=
  ∀ (c : Cn) (σ : L2.St) (W : Wd) (fs : Fs) (E : XP) (Q : Option Int → Hp → Prop) (Q' : Option Int → Fs → Prop), Fr K c σ W fs → AdX K c Ec E → a E fs Q' →
    (∀ o W' fs', Le W W' → Fr K c σ W' fs' → Q' o fs' → Q o W'.H) → t σ W.H Q
def cSndO (K : PySem.W.Frag) (Ec : L2.St → XK) (a : AO) : TO := fun σ H Q => ∃ (c : Cn) (W : Wd) (fs : Fs) (E : XP) (Q' : Option Int → Fs → Prop), W.H = H ∧ Fr K c σ W fs ∧ AdX K c Ec E ∧ a E fs Q' ∧ ∀ o W' fs', Le W W' → Fr K c σ W' fs' → Q' o fs' → Q o W'.H
theorem cSndO.s {K : PySem.W.Frag} {Ec : L2.St → XK} {a : AO} : SndO K Ec (cSndO K Ec a) a := fun c σ W fs E Q Q' F A h k => ⟨c, W, fs, E, Q', rfl, F, A, h, k⟩
structure OXt (X : Cx) (Ec : L2.St → XK) (e : Option Expr) (t : TO) (a : AO) : Prop where
  p : PO X e t
  s : SndO X.K Ec t a
structure OX (X : Cx) (Ec : L2.St → XK) (e : Option Expr) (a : AO) : Prop where
  p : PO X e (cSndO X.K Ec a)
theorem OX.s {X : Cx} {Ec : L2.St → XK} {e : Option Expr} {a : AO} (_ : OX X Ec e a) : SndO X.K Ec (cSndO X.K Ec a) a := cSndO.s
theorem OXt.x {X : Cx} {Ec : L2.St → XK} {e : Option Expr} {t : TO} {a : AO} (h : OXt X Ec e t a) : OX X Ec e a := ⟨⟨by
  obtain ⟨p, q⟩ := h
  exact fun pins s σ H Q I ⟨c, W, fs, E, Q', e, F, A, h, k⟩ => by subst e; exact p.run pins s σ W.H Q I (q c σ W fs E Q Q' F A h k)⟩⟩
def aON (_ : XP) (fs : Fs) (Q : Option Int → Fs → Prop) : Prop := Q none fs
def kOS (Q : Option Int → Fs → Prop) (r : Rx) (fs1 : Fs) : Prop := match r with
  | .dt (.int i) => Q (some i) fs1
  | _ => False
def aOS (a : AX) (E : XP) (fs : Fs) (Q : Option Int → Fs → Prop) : Prop := a E fs (kOS Q)
def arSl (d : D) (lo hi : Option Int) (Q : Zx → Prop) : Prop := match d with
  | .lst ds => Q (.fr (.lst ((ds.drop (HT.sIx ds.length 0 lo)).take (HT.sIx ds.length ds.length hi - HT.sIx ds.length 0 lo))))
  | .tup ds => Q (.dt (.tup ((ds.drop (HT.sIx ds.length 0 lo)).take (HT.sIx ds.length ds.length hi - HT.sIx ds.length 0 lo))))
  | .str x => x.length ≤ sizeLine ∧ Q (.dt (.str (cutS x lo hi)))
  | _ => False
def kSl3 (Q : Rx → Fs → Prop) (x : Vx) (lo hi : Option Int) (fs3 : Fs) : Prop := match x.at fs3 with
  | some d => arSl d lo hi (kZ Q fs3)
  | none => False
def kSl2 (h : AO) (E : XP) (Q : Rx → Fs → Prop) (x : Vx) (lo : Option Int) (fs2 : Fs) : Prop := h E fs2 (kSl3 Q x lo)
def kSl1 (l h : AO) (E : XP) (Q : Rx → Fs → Prop) (x : Vx) (fs1 : Fs) : Prop := l E fs1 (kSl2 h E Q x)
def aSl (a : AX) (l h : AO) (E : XP) (fs : Fs) (Q : Rx → Fs → Prop) : Prop := aV a E fs (kSl1 l h E Q)
section
variable {X : Cx} {Ec : L2.St → XK} {e : Expr} {t : TE} {a : AX} {lo hi : Option Expr} {tl th : TO} {al ah : AO} {pos p2 : Pos}
theorem ox_none : OX X Ec none aON := OXt.x ⟨po_none, fun c σ W fs E Q Q' F A h k => k none W fs (Le.refl W) F h⟩
theorem ox_some (h : EX X Ec e a) : OX X Ec (some e) (aOS a) := OXt.x ⟨po_some h.p, fun c σ W fs E Q Q' F A ha k => by
  refine h.s c σ W fs E _ _ F A ha fun v r W1 fs1 l1 F1 r1 q1 => ?_
  cases r with
  | dt d => cases d with
    | int i =>
      have r1' : Rep X.K W1 v (.int i) := r1
      cases r1'
      exact ⟨i, rfl, k (some i) W1 fs1 l1 F1 q1⟩
    | _ => exact q1.elim
  | _ => exact q1.elim⟩
def rSlAll (K : PySem.W.Frag) : V → Option Int → Option Int → Hp → VK → Prop := fun x lo hi H Q => rSlL K x lo hi H Q ∨ rSlA K x lo hi H Q ∨ rSlS x lo hi H Q
theorem sl_all : SlR X (rSlAll X.K) := sl_list.or (sl_tupA.or sl_str)
theorem cut_all {α : Type} {xs : List α} {lo hi : Option Int} (h : HT.sIx xs.length 0 lo = 0 ∧ HT.sIx xs.length xs.length hi = xs.length) : (xs.drop (HT.sIx xs.length 0 lo)).take (HT.sIx xs.length xs.length hi - HT.sIx xs.length 0 lo) = xs := by
  rw [h.1, h.2, List.drop_zero, Nat.sub_zero, List.take_length]
theorem reps_cut {K : PySem.W.Frag} {W : Wd} {vs : List V} {ds : List D} (r : Reps K W vs ds) (lo hi : Option Int) : Reps K W (cutV vs lo hi) ((ds.drop (HT.sIx ds.length 0 lo)).take (HT.sIx ds.length ds.length hi - HT.sIx ds.length 0 lo)) := by
  unfold cutV
  rw [r.len]
  exact (r.drop _).take _
theorem ex_sl (he : EX X Ec e a) (hl : OX X Ec lo al) (hh : OX X Ec hi ah) : EX X Ec (.Subscript e (.Slice lo hi none p2) pos) (aSl a al ah) := EXt.x ⟨pe_slice sl_all he.p hl.p hh.p, fun c σ W fs E Q Q' F A ha k => by
  refine he.s.v c σ W fs E _ _ F A ha fun v r W1 fs1 l1 F1 r1 q1 => ?_
  refine hl.s c σ W1 fs1 E _ _ F1 A q1 fun lo W2 fs2 l2 F2 q2 => ?_
  refine hh.s c σ W2 fs2 E _ _ F2 A q2 fun hi W3 fs3 l3 F3 q3 => ?_
  have q3' : (match r.at fs3 with
    | some d => arSl d lo hi fun z => Q' z.rx fs3
    | none => False) := q3
  split at q3'
  · rename_i d ed
    have vw := Vw.of F3 (r1.mono (l2.trans l3)) ed
    have l13 := (l1.trans l2).trans l3
    unfold arSl at q3'
    split at q3'
    · rename_i ds
      obtain ⟨p, vs, rfl, hq, r⟩ := vw.lst
      refine .inl ⟨p, vs, rfl, hq, fun q nq => ?_⟩
      have ex := Exs.new (o := .lst (cutV vs lo hi)) nq
      exact k _ (.fr (.lst _)) ⟨_, W3.F⟩ fs3 (l13.trans (Le.grow ex F3.dF)) (F3.grow ex) (F3.zx (z := .fr (.lst _)) ex ⟨q, rfl, nq, fun f => F3.dF q f nq, _, upd_same, (reps_cut r lo hi).mono (Le.grow ex F3.dF)⟩) q3'
    · rename_i ds
      obtain ⟨p, vs, rfl, hq, r⟩ := vw.tup
      refine .inr (.inl ⟨p, vs, rfl, hq, fun hw => ?_, fun hw q nq => ?_⟩)
      · rw [r.len] at hw
        refine k _ (.dt _) W3 fs3 l13 F3 ?_ q3'
        rw [cut_all hw]
        exact .tup hq r
      · have ex := Exs.new (o := .tup (cutV vs lo hi)) nq
        exact k _ (.dt _) ⟨_, W3.F⟩ fs3 (l13.trans (Le.grow ex F3.dF)) (F3.grow ex) (.tup (.inl (.inl upd_same)) ((reps_cut r lo hi).mono (Le.grow ex F3.dF))) q3'
    · cases vw.str
      exact .inr (.inr ⟨_, rfl, q3'.1, k _ (.dt _) W3 fs3 l13 F3 (.str _) q3'.2⟩)
    · exact q3'.elim
  · exact q3'.elim⟩
end

/-! one argument: len, abs, int, bool, str, list, tuple; two: min, max -/
theorem opn1 {K : PySem.W.Frag} {r : List V → Hp → VK → Prop} {f : D → (Zx → Prop) → Prop}
    (h : ∀ (W : Wd) (v : V) (d : D) (Q : VK) (Q' : Zx → Prop), (∀ b, W.F b → W.H b ≠ none) → Vw K W v d → f d Q' → (∀ v z H', Exs W.H H' → ZxOk K W ⟨H', W.F⟩ v z → Q' z → Q v H') → r [v] W.H Q) : Opn K r (ar1 f) := fun W vs ds Q Q' dF hv ha k => by
  unfold ar1 at ha
  split at ha
  · obtain ⟨v, rfl, hv2⟩ := hv.one
    exact h W v _ Q Q' dF hv2 ha k
  · exact ha.elim
theorem opn2 {K : PySem.W.Frag} {r : List V → Hp → VK → Prop} {f : AR2}
    (h : ∀ (W : Wd) (v u : V) (d e : D) (Q : VK) (Q' : Zx → Prop), (∀ b, W.F b → W.H b ≠ none) → Vw K W v d → Vw K W u e → f d e Q' → (∀ v z H', Exs W.H H' → ZxOk K W ⟨H', W.F⟩ v z → Q' z → Q v H') → r [v, u] W.H Q) : Opn K r (ar2 f) := fun W vs ds Q Q' dF hv ha k => by
  unfold ar2 at ha
  split at ha
  · obtain ⟨v, u, rfl, hv2, hu⟩ := hv.two
    exact h W v u _ _ Q Q' dF hv2 hu ha k
  · exact ha.elim
def faLen (d : D) (Q : Zx → Prop) : Prop := match d with
  | .str x => x.length ≤ sizeLine ∧ Q (.dt (.int x.length))
  | .lst ds => Q (.dt (.int ds.length))
  | .tup ds => Q (.dt (.int ds.length))
  | _ => False
def rLenA (K : PySem.W.Frag) : List V → Hp → VK → Prop := fun xs H Q => ∃ x n, xs = [x] ∧ LenV K x H n ∧ Q (.int n) H
theorem call_lenA {X : Cx} : CallR X (.builtin "len") (rLenA X.K) := call_len
theorem opn_len {K : PySem.W.Frag} : Opn K (rLenA K) (ar1 faLen) := opn1 fun W v d Q Q' dF hv h k => by
  unfold faLen at h
  split at h
  · cases hv.str
    exact ⟨_, _, rfl, ⟨h.1, rfl⟩, k _ _ W.H (Exs.refl _) (zx0 (.int _)) h.2⟩
  · obtain ⟨p, vs, rfl, hq, r⟩ := hv.lst
    exact ⟨_, _, rfl, .inl ⟨vs, hq, rfl⟩, k _ (.dt (.int _)) W.H (Exs.refl _) (by rw [r.len]; exact .int _) h⟩
  · obtain ⟨p, vs, rfl, hq, r⟩ := hv.tup
    exact ⟨_, _, rfl, .inr ⟨vs, hq, rfl⟩, k _ (.dt (.int _)) W.H (Exs.refl _) (by rw [r.len]; exact .int _) h⟩
  · exact h.elim
def faAbs (d : D) (Q : Zx → Prop) : Prop := match d with
  | .int i => Q (.dt (.int (if i < 0 then -i else i)))
  | _ => False
theorem opn_abs {K : PySem.W.Frag} : Opn K (fun xs H Q => ∃ i, xs = [.int i] ∧ Q (.int (if i < 0 then -i else i)) H) (ar1 faAbs) := opn1 fun W v d Q Q' dF hv h k => by
  unfold faAbs at h
  split at h
  · cases hv.int
    exact ⟨_, rfl, k _ _ W.H (Exs.refl _) (zx0 (.int _)) h⟩
  · exact h.elim
theorem opn_ii {K : PySem.W.Frag} {g : Int → Int → Int} : Opn K (fun xs H Q => ∃ i j, xs = [.int i, .int j] ∧ Q (.int (g i j)) H) (ar2 (arI0 fun i j => .int (g i j))) := opn2 fun W v u d e Q Q' dF hv hu h k => by
  unfold arI0 at h
  split at h
  · cases hv.int; cases hu.int
    exact ⟨_, _, rfl, k _ _ W.H (Exs.refl _) (zx0 (.int _)) h⟩
  · exact h.elim
def faStr (d : D) (Q : Zx → Prop) : Prop := match d with
  | .int i => i.natAbs.log2 < 1920 ∧ Q (.dt (.str (toString i)))
  | _ => False
theorem opn_str {K : PySem.W.Frag} : Opn K (fun xs H Q => ∃ i : Int, xs = [.int i] ∧ i.natAbs.log2 < 1920 ∧ Q (.str (toString i)) H) (ar1 faStr) := opn1 fun W v d Q Q' dF hv h k => by
  unfold faStr at h
  split at h
  · cases hv.int
    exact ⟨_, rfl, h.1, k _ _ W.H (Exs.refl _) (zx0 (.str _)) h.2⟩
  · exact h.elim
def faList (d : D) (Q : Zx → Prop) : Prop := match d with
  | .lst ds => Q (.fr (.lst ds))
  | .tup ds => Q (.fr (.lst ds))
  | _ => False
theorem opn_list {K : PySem.W.Frag} : Opn K (fun xs H Q => ∃ p ys, xs = [.ref p] ∧ (SqL K H p ys ∨ SqT K H p ys) ∧ ∀ l, H l = none → Q (.ref l) (upd H l (.lst ys))) (ar1 faList) := opn1 fun W v d Q Q' dF hv h k => by
  unfold faList at h
  split at h
  · rename_i ds
    obtain ⟨p, vs, rfl, hq, r⟩ := hv.lst
    exact ⟨p, vs, rfl, .inl hq, fun l nl => k _ (.fr (.lst ds)) _ (Exs.new nl) ⟨l, rfl, nl, fun f => dF l f nl, vs, upd_same, r.mono (Le.grow (Exs.new nl) dF)⟩ h⟩
  · rename_i ds
    obtain ⟨p, vs, rfl, hq, r⟩ := hv.tup
    exact ⟨p, vs, rfl, .inr hq, fun l nl => k _ (.fr (.lst ds)) _ (Exs.new nl) ⟨l, rfl, nl, fun f => dF l f nl, vs, upd_same, r.mono (Le.grow (Exs.new nl) dF)⟩ h⟩
  · exact h.elim
def faTuple (d : D) (Q : Zx → Prop) : Prop := match d with
  | .lst ds => Q (.dt (.tup ds))
  | .tup ds => Q (.dt (.tup ds))
  | _ => False
theorem opn_tuple {K : PySem.W.Frag} : Opn K (fun xs H Q => ∃ p ys, xs = [.ref p] ∧ ((SqL K H p ys ∧ ∀ l, H l = none → Q (.ref l) (upd H l (.tup ys))) ∨ (SqT K H p ys ∧ Q (.ref p) H))) (ar1 faTuple) := opn1 fun W v d Q Q' dF hv h k => by
  unfold faTuple at h
  split at h
  · obtain ⟨p, vs, rfl, hq, r⟩ := hv.lst
    exact ⟨p, vs, rfl, .inl ⟨hq, fun l nl => k _ (.dt _) _ (Exs.new nl) (.tup (.inl (.inl upd_same)) (r.mono (Le.grow (Exs.new nl) dF))) h⟩⟩
  · obtain ⟨p, vs, rfl, hq, r⟩ := hv.tup
    exact ⟨p, vs, rfl, .inr ⟨hq, k _ (.dt _) W.H (Exs.refl _) (zx0 (.tup hq r)) h⟩⟩
  · exact h.elim
/-- all, any of a list of truths -/
def bools : List D → Option (List Bool)
  | [] => some []
  | .bl b :: r => match bools r with
    | some bs => some (b :: bs)
    | none => none
  | _ :: _ => none
def faAll (d : D) (Q : Zx → Prop) : Prop := match d with
  | .lst ds => match bools ds with
    | some bs => Q (.dt (.bl (bs.all id)))
    | none => False
  | _ => False
def faAny (d : D) (Q : Zx → Prop) : Prop := match d with
  | .lst ds => match bools ds with
    | some bs => Q (.dt (.bl (bs.any id)))
    | none => False
  | _ => False
theorem bools_view {K : PySem.W.Frag} {W : Wd} : ∀ {vs : List V} {ds : List D} {bs : List Bool}, Reps K W vs ds → bools ds = some bs → vs = bs.map V.bl
  | _, _, _, .nil, e => by cases e; rfl
  | _, _, _, .cons (d := d) h r, e => by
    cases d with
    | bl b =>
      cases h
      unfold bools at e
      split at e
      · rename_i bs' e2
        cases e
        rw [bools_view r e2]
        rfl
      · cases e
    | _ => cases e
theorem opn_all {K : PySem.W.Frag} : Opn K (rAll K) (ar1 faAll) := opn1 fun W v d Q Q' dF hv h k => by
  unfold faAll at h
  split at h
  · split at h
    · rename_i bs eb
      obtain ⟨p, vs, rfl, hq, r⟩ := hv.lst
      exact ⟨p, bs, rfl, by rw [← bools_view r eb]; exact hq, k _ _ W.H (Exs.refl _) (zx0 (.bl _)) h⟩
    · exact h.elim
  · exact h.elim
theorem opn_any {K : PySem.W.Frag} : Opn K (rAny K) (ar1 faAny) := opn1 fun W v d Q Q' dF hv h k => by
  unfold faAny at h
  split at h
  · split at h
    · rename_i bs eb
      obtain ⟨p, vs, rfl, hq, r⟩ := hv.lst
      exact ⟨p, bs, rfl, by rw [← bools_view r eb]; exact hq, k _ _ W.H (Exs.refl _) (zx0 (.bl _)) h⟩
    · exact h.elim
  · exact h.elim

/-! isinstance with a built-in class -/
inductive Ty where
  | str | int | bool | tuple | list | dict
def Ty.nm : Ty → String
  | .str => "str" | .int => "int" | .bool => "bool" | .tuple => "tuple" | .list => "list" | .dict => "dict"
def isiD : D → Ty → Option Bool
  | .non, _ => some false
  | .bl _, .bool => some true
  | .bl _, .int => some true
  | .bl _, _ => some false
  | .int _, .int => some true
  | .int _, _ => some false
  | .str _, .str => some true
  | .str _, _ => some false
  | .tup _, .tuple => some true
  | .tup _, _ => some false
  | .lst _, .list => some true
  | .lst _, _ => some false
  | .dct _ _, .dict => some true
  | .dct _ _, _ => some false
  | _, _ => none
def kIsi (T : Ty) (Q : Rx → Fs → Prop) (x : Vx) (fs1 : Fs) : Prop := match x.at fs1 with
  | some d => match isiD d T with
    | some b => Q (.dt (.bl b)) fs1
    | none => False
  | none => False
def aIsi (T : Ty) (a : AX) (E : XP) (fs : Fs) (Q : Rx → Fs → Prop) : Prop := aV a E fs (kIsi T Q)
theorem isi_view {K : PySem.W.Frag} {W : Wd} {v : V} {d : D} {T : Ty} {b : Bool} (h : Vw K W v d) (e : isiD d T = some b) : ∃ t, TyX K W.H v (.type t) ∧ kitB t T.nm = some b := by
  rcases h with h | ⟨a, rfl, ct⟩
  · cases h with
    | non => exact ⟨"NoneType", .base .non, by cases T <;> (cases e; decide +kernel)⟩
    | bl x => exact ⟨"bool", .base (.bl x), by cases T <;> (cases e; decide +kernel)⟩
    | int x => exact ⟨"int", .base (.int x), by cases T <;> (cases e; decide +kernel)⟩
    | str x => exact ⟨"str", .base (.str x), by cases T <;> (cases e; decide +kernel)⟩
    | tup hq r =>
      refine ⟨"tuple", ?_, by cases T <;> (cases e; decide +kernel)⟩
      rcases hq with (hq | ⟨o, hq⟩) | ⟨o, its, n, h1, h2, _⟩
      · exact .base (.tup hq)
      · exact .fTuple hq
      · exact .kTuple h1 h2
    | lst f hq r =>
      refine ⟨"list", ?_, by cases T <;> (cases e; decide +kernel)⟩
      rcases hq with hq | ⟨o, hq⟩
      · exact .base (.lst hq)
      · exact .base (.frz hq)
    | lstK hq r =>
      obtain ⟨o, its, n, h1, h2, _⟩ := hq
      exact ⟨"list", .kList h1 h2, by cases T <;> (cases e; decide +kernel)⟩
    | dct f hq r => exact ⟨"dict", .base (.dK hq), by cases T <;> (cases e; decide +kernel)⟩
    | obj f hq r => cases T <;> cases e
    | exc0 f hq => cases T <;> cases e
    | exc f hq g i r => cases T <;> cases e
    | oth v => cases T <;> cases e
  · cases d with
    | lst ds => obtain ⟨vs, q, r⟩ := ct; exact ⟨"list", .base (.lst q), by cases T <;> (cases e; decide +kernel)⟩
    | dct ks ds => obtain ⟨vs, q, n, r⟩ := ct; exact ⟨"dict", .base (.dK q), by cases T <;> (cases e; decide +kernel)⟩
    | obj C ns ds => cases T <;> cases e
    | _ => exact ct.elim
section
variable {X : Cx} {Ec : L2.St → XK} {e : Expr} {t : TE} {a : AX} {p p2 pos : Pos}
theorem ex_isi (T : Ty) {x : Str} (h : EX X Ec e a) (hm : X.mg "isinstance" = none) (hm2 : X.mg x = none) (hv2 : bootBuiltins x = some (.type T.nm)) (hg : Gl X "isinstance" := by rfl) (hg2 : Gl X x := by rfl) (hv : bootBuiltins "isinstance" = some (.builtin "isinstance") := by decide +kernel)
    (hn2 : x ≠ "__name__" := by decide) (hd2 : (x == ("__debug__" : Str)) = false := by decide)
    (hs1 : starEach [.Name x p2] X.env = (false, eval (.Name x p2) X.env) :: starEach [] X.env := by rfl)
    (he : starEach [e, .Name x p2] X.env = (false, eval e X.env) :: starEach [.Name x p2] X.env := by rfl) (hpl : (backTo pos (starEach [.Name x p2] X.env)).any (·.1) = false := by rfl) :
    EX X Ec (.Call (.Name "isinstance" p) [e, .Name x p2] [] pos) (aIsi T a) :=
  EXt.x ⟨pe_callB call_isi hg hm hv (pa_cons h.p (pa_cons (pe_bltn (v := .ty T.nm) hg2 hm2 hv2 rfl hn2 hd2) pa_nil hs1) he) (by decide) (by decide) he hpl, fun c σ W fs E Q Q' F A ha k => by
    refine h.s.v c σ W fs E _ _ F A ha fun v r W1 fs1 l1 F1 r1 q1 => ?_
    have q1' : (match r.at fs1 with
      | some d => match isiD d T with
        | some b => Q' (.dt (.bl b)) fs1
        | none => False
      | none => False) := q1
    split at q1'
    · rename_i d ed
      split at q1'
      · rename_i b eb
        obtain ⟨ty, h1, h2⟩ := isi_view (Vw.of F1 r1 ed) eb
        exact ⟨v, .ty T.nm, .type ty, .type T.nm, b, rfl, .ty _, h1, kit_ty h2, k _ (.dt (.bl b)) W1 fs1 l1 F1 (.bl b) q1'⟩
      · exact q1'.elim
    · exact q1'.elim⟩
end

/-! methods that change the receiver, which stands in slot i -/
abbrev AM := D → List D → (D → D → Prop) → Prop
/-- of the receiver's content, the arguments: the content behind, the result -/
def MutS (K : PySem.W.Frag) (r : V → List V → Hp → VK → Prop) (am : AM) : Prop := ∀ (W : Wd) (a : Addr) (vs : List V) (d : D) (ds : List D) (Q : VK) (Q' : D → D → Prop), (∀ b, W.F b → W.H b ≠ none) → ¬ W.F a → Cont K W a d → Reps K W vs ds → am d ds Q' →
  (∀ v z d' o', Cont K ⟨upd W.H a o', W.F⟩ a d' → Rep K W v z → Q' d' z → Q v (upd W.H a o')) → r (.ref a) vs W.H Q
def isTy (T : String) : D → Bool
  | .lst _ => T == "list"
  | .dct _ _ => T == "dict"
  | _ => false
def kM2 (i : Nat) (p : Bool) (fs1 : Fs) (Q : Rx → Fs → Prop) (d' z : D) : Prop := Q (.dt z) (fs1.set i (.own p d'))
def kMut (i : Nat) (am : AM) (Q : Rx → Fs → Prop) (ds : List D) (fs1 : Fs) : Prop := match fs1[i]? with
  | some (.own p d) => am d ds (kM2 i p fs1 Q)
  | _ => False
def aMut (T : String) (i : Nat) (am : AM) (a : AL) (E : XP) (fs : Fs) (Q : Rx → Fs → Prop) : Prop := match fs[i]? with
  | some (.own _ d0) => isTy T d0 = true ∧ a E fs (kMut i am Q)
  | _ => False
section
variable {K : PySem.W.Frag} {Ec : L2.St → XK}
theorem ty_cont {W : Wd} {a : Addr} {d : D} {T : String} (h : Cont K W a d) (e : isTy T d = true) : tyV K T (.ref a) W.H := by
  cases d with
  | lst ds => obtain ⟨vs, q, r⟩ := h; exact .inl ⟨by simpa [isTy] using e, vs, .inl (.inl q)⟩
  | dct ks ds => obtain ⟨vs, q, n, r⟩ := h; exact .inr (.inr (.inl ⟨by simpa [isTy] using e, .inl ⟨vs, q⟩⟩))
  | _ => first | exact h.elim | cases e
theorem snd_mut {T : String} {i : Nat} {am : AM} {ta : TA} {a : AL} {r : V → List V → Hp → VK → Prop} (h : SndL K Ec ta a) (hm : MutS K r am) : SndX K Ec (tBM K T r (tVar i) ta) (aMut T i am a) := fun c σ W fs E Q Q' F A ha k => by
  have ha' : (match fs[i]? with
    | some (.own _ d0) => isTy T d0 = true ∧ a E fs fun ds fs1 => (match fs1[i]? with
      | some (.own p d) => am d ds fun d' z => Q' (.dt z) (fs1.set i (.own p d'))
      | _ => False)
    | _ => False) := ha
  split at ha'
  · rename_i p0 d0 e0
    obtain ⟨ht, ha'⟩ := ha'
    obtain ⟨ad0, q0⟩ := id F
    obtain ⟨e1, _, ct0⟩ := q0.own e0
    refine ⟨_, e1, ty_cont ct0 ht, ?_⟩
    refine h c σ W fs E _ _ F A ha' fun vs ds W1 fs1 l1 F1 r1 q1 => ?_
    split at q1
    · rename_i p d ei
      obtain ⟨ad, q⟩ := id F1
      obtain ⟨e2, nf, ct⟩ := q.own ei
      have ea : ad0 i = ad i := by rw [e1] at e2; simpa using e2
      rw [ea]
      refine hm W1 (ad i) vs d ds Q _ F1.dF nf ct r1 q1 fun v z d' o' ct' rz qz => ?_
      obtain ⟨o, ho, mu⟩ := ct.mut
      exact k v (.dt z) ⟨_, W1.F⟩ _ (l1.trans (Le.write ho mu nf)) ⟨ad, q.write ei ct'⟩ (rz.mono (Le.write ho mu nf)) qz
    · exact q1.elim
  · exact ha'.elim
/-- without arguments -/
def aMut0 (T : String) (i : Nat) (am : AM) (_ : XP) (fs : Fs) (Q : Rx → Fs → Prop) : Prop := match fs[i]? with
  | some (.own p d) => isTy T d = true ∧ am d [] (kM2 i p fs Q)
  | _ => False
theorem snd_mut0 {T : String} {i : Nat} {am : AM} {r : V → List V → Hp → VK → Prop} (hm : MutS K r am) : SndX K Ec (tBM0 K T r (tVar i)) (aMut0 T i am) := fun c σ W fs E Q Q' F A ha k => by
  have ha' : (match fs[i]? with
    | some (.own p d) => isTy T d = true ∧ am d [] fun d' z => Q' (.dt z) (fs.set i (.own p d'))
    | _ => False) := ha
  split at ha'
  · rename_i p d ei
    obtain ⟨ad, q⟩ := id F
    obtain ⟨e2, nf, ct⟩ := q.own ei
    refine ⟨_, e2, ty_cont ct ha'.1, ?_⟩
    refine hm W (ad i) [] d [] Q _ F.dF nf ct .nil ha'.2 fun v z d' o' ct' rz qz => ?_
    obtain ⟨o, ho, mu⟩ := ct.mut
    exact k v (.dt z) ⟨_, W.F⟩ _ (Le.write ho mu nf) ⟨ad, q.write ei ct'⟩ (rz.mono (Le.write ho mu nf)) qz
  · exact ha'.elim
end
def amAppend (d : D) (ds : List D) (Q : D → D → Prop) : Prop := match d, ds with
  | .lst xs, [y] => xs.length < sizeLine ∧ Q (.lst (xs ++ [y])) .non
  | _, _ => False
def amPop (d : D) (ds : List D) (Q : D → D → Prop) : Prop := match d, ds with
  | .lst xs, [] => match xs.getLast? with
    | some y => Q (.lst xs.dropLast) y
    | none => False
  | _, _ => False
def amExtend (d : D) (ds : List D) (Q : D → D → Prop) : Prop := match d, ds with
  | .lst xs, [.lst ys] => xs.length + ys.length ≤ sizeLine ∧ Q (.lst (xs ++ ys)) .non
  | .lst xs, [.tup ys] => xs.length + ys.length ≤ sizeLine ∧ Q (.lst (xs ++ ys)) .non
  | _, _ => False
theorem mut_append {K : PySem.W.Frag} : MutS K rAppend amAppend := fun W a vs d ds Q Q' dF nf ct r h k => by
  unfold amAppend at h
  split at h
  · rename_i xs y
    obtain ⟨us, q, ru⟩ := ct
    cases r with
    | cons r1 r2 => cases r2 with
      | nil =>
      refine ⟨a, us, _, rfl, rfl, q, by rw [ru.len]; exact h.1, ?_⟩
      exact k .non .non (.lst (xs ++ [y])) _ ⟨_, upd_same, (ru.app (.cons r1 .nil)).mono (Le.write q trivial nf)⟩ .non h.2
  · exact h.elim
theorem mut_pop {K : PySem.W.Frag} : MutS K rPop amPop := fun W a vs d ds Q Q' dF nf ct r h k => by
  unfold amPop at h
  split at h
  · rename_i xs
    split at h
    · rename_i y ey
      obtain ⟨us, q, ru⟩ := ct
      cases r
      have ey' : xs[xs.length - 1]? = some y := by rw [← List.getLast?_eq_getElem?]; exact ey
      obtain ⟨v, e1, rv⟩ := ru.get ey'
      refine ⟨a, us, v, rfl, rfl, q, by rw [ru.len]; exact e1, ?_⟩
      exact k v y (.lst xs.dropLast) _ ⟨_, upd_same, ru.dropLast.mono (Le.write q trivial nf)⟩ rv h
    · exact h.elim
  · exact h.elim
def rExtA (K : PySem.W.Frag) : V → List V → Hp → VK → Prop := fun x vs H Q => ∃ l b xs zs, x = .ref l ∧ vs = [.ref b] ∧ H l = some (.lst xs) ∧ (SqL K H b zs ∨ SqT K H b zs) ∧ xs.length + zs.length ≤ sizeLine ∧ Q .non (upd H l (.lst (xs ++ zs)))
theorem mt_extA {X : Cx} : MtM X "list.extend" (rExtA X.K) := by
  intro pins s σ H x vs v us Q I rx rv h
  obtain ⟨l, b, xs, zs, rfl, rfl, hH, hB, hz, q⟩ := h
  cases rx
  obtain ⟨u, rfl, ru⟩ := rv.one
  cases ru
  obtain ⟨z, its, n, r, hl, e⟩ := I.lstM hH
  rcases hB with hB | hB
  · obtain ⟨its2, r2, ⟨⟨c2, d2, t2, s2⟩, n2, e2, hc2, hd2, ht2⟩, _⟩ := I.list hB
    simp only at hc2 hd2 ht2
    subst hc2 hd2 ht2
    have hl2 := r2.length
    have hsz : its.toArray.size + its2.toArray.size ≤ sizeLine := by rw [List.size_toArray, List.size_toArray] <;> omega
    have hlong : ¬ (!its.toArray.isEmpty && Builtin.List.listTooLong (its.toArray.size + its2.toArray.size)) = true := by
      rw [notLongL hsz, Bool.and_false]; simp
    refine call_meets F.slot_list_extend ⟨_, e, rfl⟩ F.entry_list_extend (F.args_list_extend_2 _ _) (ext_ll l its.toArray n b its2.toArray n2 s2 hlong (by rw [List.size_toArray] <;> omega) (by omega)) ⟨e, e2, ?_⟩
    refine ⟨.non, _, I.lset (its' := its ++ its2) hH e (by simp) (r.append r2) ?_, rfl, q⟩
    rw [List.length_append] <;> omega
  · obtain ⟨its2, r2, ⟨⟨c2, d2, t2, s2⟩, e2, hc2, n2, ht2⟩, _⟩ := I.tuple hB
    simp only at hc2 ht2
    subst hc2 ht2
    have hl2 := r2.length
    have hsz : its.toArray.size + its2.toArray.size ≤ sizeLine := by rw [List.size_toArray, List.size_toArray] <;> omega
    have hlong : ¬ (!its.toArray.isEmpty && Builtin.List.listTooLong (its.toArray.size + its2.toArray.size)) = true := by
      rw [notLongL hsz, Bool.and_false]; simp
    refine call_meets F.slot_list_extend ⟨_, e, rfl⟩ F.entry_list_extend (F.args_list_extend_2 _ _) (ext_lt l its.toArray n b its2.toArray n2 d2 s2 hlong (by rw [List.size_toArray] <;> omega) (by omega)) ⟨e, e2, ?_⟩
    refine ⟨.non, _, I.lset (its' := its ++ its2) hH e (by simp) (r.append r2) ?_, rfl, q⟩
    rw [List.length_append] <;> omega
theorem mut_extend {K : PySem.W.Frag} : MutS K (rExtA K) amExtend := fun W a vs d ds Q Q' dF nf ct r h k => by
  unfold amExtend at h
  split at h
  · rename_i xs ys
    obtain ⟨us, q, ru⟩ := ct
    cases r with
    | cons r1 r2 => cases r2 with
      | nil =>
      obtain ⟨b, ws, rfl, hq, rw'⟩ := (show Vw K W _ (.lst ys) from .inl r1).lst
      refine ⟨a, b, us, ws, rfl, rfl, q, .inl hq, by rw [ru.len, rw'.len]; exact h.1, ?_⟩
      exact k .non .non (.lst (xs ++ ys)) _ ⟨_, upd_same, (ru.app rw').mono (Le.write q trivial nf)⟩ .non h.2
  · rename_i xs ys
    obtain ⟨us, q, ru⟩ := ct
    cases r with
    | cons r1 r2 => cases r2 with
      | nil =>
      obtain ⟨b, ws, rfl, hq, rw'⟩ := (show Vw K W _ (.tup ys) from .inl r1).tup
      refine ⟨a, b, us, ws, rfl, rfl, q, .inr hq, by rw [ru.len, rw'.len]; exact h.1, ?_⟩
      exact k .non .non (.lst (xs ++ ys)) _ ⟨_, upd_same, (ru.app rw').mono (Le.write q trivial nf)⟩ .non h.2
  · exact h.elim
section
variable {X : Cx} {Ec : L2.St → XK} {e o : Expr} {es : List Expr} {ta : TA} {al : AL} {apos cpos npos : Pos} {x name : Str} {T id : String} {r : V → List V → Hp → VK → Prop} {am : AM}
/-- x.m(e, ..) -/
theorem ex_mut (i : Nat) (pa : PlainAttrs T) (slot : Slot T name id) (hty : typeOf (.builtin id) = pure (.type "method_descriptor")) (hm : MtR X id r) (hs : MutS X.K r am) (ha : EL X Ec (e :: es) al)
    (hN : X.N[i]? = some x := by rfl) (hv : Vis X.env.scope x := by first | exact Or.inl rfl | exact Or.inr (Or.inl rfl) | exact Or.inr (Or.inr rfl)) (hd : (x == ("__debug__" : Str)) = false := by decide)
    (hcd : (x == ("__classdict__" : Str)) = false := by decide)
    (hbase : attributeBase (.Name x npos) name X.env (eval (.Name x npos) X.env) = eval (.Name x npos) X.env := by rfl)
    (hfew : ((backTo cpos (starEach (e :: es) X.env)).all (fun x => !x.1) && (backToKw cpos (keywordEach [] X.env)).all (fun x => x.1.isSome)
      && decide ((e :: es).length + ([] : List Keyword).length + (if ([] : List Keyword).isEmpty then 0 else 1) < 30)) = true := by rfl)
    (hline : (apos.endLine == cpos.line) = true := by rfl) (hst : starEach (e :: es) X.env = (false, eval e X.env) :: starEach es X.env := by rfl) (hplain : (backTo cpos (starEach es X.env)).any (·.1) = false := by rfl) :
    EX X Ec (.Call (.Attribute (.Name x npos) name apos) (e :: es) [] cpos) (aMut T i am al) := EXt.x ⟨pe_bm pa slot hty hm (pe_var hN hv hd hcd) ha.p hbase hfew hline hst hplain, snd_mut ha.s hs⟩
theorem ex_mut0 (i : Nat) (pa : PlainAttrs T) (slot : Slot T name id) (hty : typeOf (.builtin id) = pure (.type "method_descriptor")) (hm : MtR X id r) (hs : MutS X.K r am)
    (hN : X.N[i]? = some x := by rfl) (hv : Vis X.env.scope x := by first | exact Or.inl rfl | exact Or.inr (Or.inl rfl) | exact Or.inr (Or.inr rfl)) (hd : (x == ("__debug__" : Str)) = false := by decide)
    (hcd : (x == ("__classdict__" : Str)) = false := by decide)
    (hbase : attributeBase (.Name x npos) name X.env (eval (.Name x npos) X.env) = eval (.Name x npos) X.env := by rfl) (hline : (apos.endLine == cpos.line) = true := by rfl) :
    EX X Ec (.Call (.Attribute (.Name x npos) name apos) [] [] cpos) (aMut0 T i am) := EXt.x ⟨pe_bm0 pa slot hty hm (pe_var hN hv hd hcd) hbase hline, snd_mut0 hs⟩
end

end G

namespace G
open PySem PySem.Spec PyProof.Rows L2

/-! x[k] = e, x of slot i -/
def repD (k : Key) (z : D) : List Key → List D → List D
  | a :: ks, d :: ds => (if a = k then z else d) :: repD k z ks ds
  | _, _ => []
def putKs (k : Key) (ks : List Key) : List Key := if memK k ks = true then ks else ks ++ [k]
def putDs (k : Key) (z : D) (ks : List Key) (ds : List D) : List D := if memK k ks = true then repD k z ks ds else ds ++ [z]
def arPut (d : D) (k z : D) (Q : D → Prop) : Prop := match d with
  | .lst xs => match k with
    | .int i => match ixN xs.length i with
      | some j => Q (.lst (xs.set j z))
      | none => False
    | _ => False
  | .dct ks ds => match keyD k with
    | some kk => ks.length < sizeLine ∧ Q (.dct (putKs kk ks) (putDs kk z ks ds))
    | none => False
  | _ => False
def kP3 (i : Nat) (p : Bool) (fs2 : Fs) (A : AEnds) (d' : D) : Prop := A.nx (fs2.set i (.own p d'))
def kP2 (i : Nat) (z : D) (A : AEnds) (k : Vx) (fs2 : Fs) : Prop := match fs2[i]?, k.at fs2 with
  | some (.own p d), some kd => arPut d kd z (kP3 i p fs2 A)
  | _, _ => False
def kP1 (i : Nat) (ak : AX) (E : XP) (A : AEnds) (z : D) (fs1 : Fs) : Prop := match fs1[i]? with
  | some (.own _ _) => aV ak E fs1 (kP2 i z A)
  | _ => False
def aPut (i : Nat) (ak av : AX) (E : XP) (A : AEnds) (fs : Fs) : Prop := aD av E fs (kP1 i ak E A)
theorem put_keys {K : PySem.W.Frag} {W : Wd} {v : V} {z : D} (hz : Rep K W v z) {kvs : List (Key × V)} {ds : List D} {k : Key} (r : Reps K W (kvs.map (·.2)) ds) :
    (putK kvs k v).map (·.1) = putKs k (kvs.map (·.1)) ∧ Reps K W ((putK kvs k v).map (·.2)) (putDs k z (kvs.map (·.1)) ds) := by
  have hm : (kvs.any fun kv => decide (kv.1 = k)) = memK k (kvs.map (·.1)) := by unfold memK; rw [List.any_map]; rfl
  unfold putK putKs putDs
  rw [hm]
  by_cases h : memK k (kvs.map (·.1)) = true
  · rw [if_pos h, if_pos h, if_pos h]
    clear hm h
    refine ⟨?_, ?_⟩
    · rw [List.map_map]
      apply List.map_congr_left
      intro a _
      show (if a.1 = k then (a.1, v) else a).1 = a.1
      split <;> rfl
    · induction kvs generalizing ds with
      | nil => cases r; exact .nil
      | cons a l ih =>
        cases r with
        | cons h1 h2 =>
        refine .cons ?_ (ih h2)
        show Rep K W (if a.1 = k then (a.1, v) else a).2 (if a.1 = k then z else _)
        split
        · exact hz
        · exact h1
  · rw [if_neg h, if_neg h, if_neg h]
    refine ⟨by rw [List.map_append]; rfl, ?_⟩
    rw [List.map_append]
    exact r.app (.cons hz .nil)
def rSetA : TSet := fun o i v H Q => rSetL o i v H Q ∨ ∃ a H', o = .ref a ∧ DPut H a i v H' ∧ Q H'
theorem set_any {X : Cx} (hu : X.A.units + 1 < cLine) : PSet X rSetA := fun pins s σ H o i v ov iv u Q I ro ri rv h => by
  rcases h with h | ⟨a, H', rfl, g, q⟩
  · exact set_list pins s σ H o i v ov iv u Q I ro ri rv h
  · obtain rfl : ov = Value.ref a := ro
    exact d_setItem hu I g ri rv fun s4 I4 => ⟨H', I4, q⟩
section
variable {X : Cx} {Ec : L2.St → XK} {e k : Expr} {t tk : TE} {a ak : AX} {pos tpos npos : Pos} {x : Str}
theorem sx_put (i : Nat) (hu : X.A.units + 1 < cLine) (hv : EX X Ec e a) (hk : EX X Ec k ak) (hN : X.N[i]? = some x := by rfl) (hvis : Vis X.env.scope x := by first | exact Or.inl rfl | exact Or.inr (Or.inl rfl) | exact Or.inr (Or.inr rfl)) (hd : (x == ("__debug__" : Str)) = false := by decide)
    (hcd : (x == ("__classdict__" : Str)) = false := by decide)
    (ha : ∀ v, assign (.Subscript (.Name x npos) k tpos) X.env v = (do
      let ov ← holding [v] (eval (.Name x npos) X.env)
      let iv ← holding [v, ov] (eval k X.env)
      standAt tpos
      holding [v, ov, iv] (setItem ov iv v)
      release [v, ov, iv] []) := by intro _; rfl) (hs : swapsWithSole [.Subscript (.Name x npos) k tpos] e pos.line X.env = pure false := by rfl) (hw : swappedStores [.Subscript (.Name x npos) k tpos] e X.env = pure none := by rfl)
    (h1 : (assignEach [.Subscript (.Name x npos) k tpos] X.env).map (·.2) = [assign (.Subscript (.Name x npos) k tpos) X.env] := by rfl) :
    SX X Ec (.Assign [.Subscript (.Name x npos) k tpos] e pos) (aPut i ak a) := SXt.x ⟨ps_asg hv.p (pg_sub (pe_var hN hvis hd hcd) hk.p (set_any hu) ha) hs hw h1, fun c σ W fs E D A F ad hh kk => by
  refine hv.s.dd c σ W fs E _ _ F ad hh fun v z W1 fs1 l1 F1 r1 q1 => ?_
  unfold kP1 at q1
  split at q1
  · rename_i p0 d0 e0
    obtain ⟨ad0, q0⟩ := id F1
    have eσ := (q0.own e0).1
    refine ⟨_, eσ, ?_⟩
    refine hk.s.v c σ W1 fs1 E _ _ F1 ad q1 fun kv kr W2 fs2 l2 F2 r2 q2 => ?_
    have q2' : (match fs2[i]?, kr.at fs2 with
      | some (.own p d), some kd => arPut d kd z fun d' => A.nx (fs2.set i (.own p d'))
      | _, _ => False) := q2
    split at q2'
    · rename_i p d kd ei ek
      obtain ⟨ad2, q⟩ := id F2
      obtain ⟨e2, nf, ct⟩ := q.own ei
      have ea : ad0 i = ad2 i := by rw [eσ] at e2; simpa using e2
      rw [ea]
      have vk := Vw.of F2 r2 ek
      have rz := r1.mono l2
      unfold arPut at q2'
      split at q2'
      · rename_i xs
        split at q2'
        · rename_i j
          split at q2'
          · rename_i jj ej
            obtain ⟨us, qu, ru⟩ := ct
            cases vk.int
            refine .inl ⟨_, us, _, jj, rfl, rfl, qu, by rw [ixn_len ru.len]; exact ej, ?_⟩
            have lw := Le.write (o' := .lst (us.set jj v)) qu trivial nf
            exact kk.nx σ ⟨_, W2.F⟩ _ ((l1.trans l2).trans lw) ⟨ad2, q.write (d' := .lst (xs.set jj z)) ei ⟨_, upd_same, (ru.set rz jj).mono lw⟩⟩ q2'
          · exact q2'.elim
        · exact q2'.elim
      · rename_i ks ds
        split at q2'
        · rename_i kkey ekk
          obtain ⟨kvs, qu, n, ru⟩ := ct
          subst n
          have := keyD_view vk ekk
          subst this
          refine .inr ⟨_, _, rfl, DPut.k qu (by simpa using q2'.1), ?_⟩
          have lw := Le.write (o' := .dK (putK kvs kkey v)) qu trivial nf
          obtain ⟨pk1, pk2⟩ := put_keys rz ru
          exact kk.nx σ ⟨_, W2.F⟩ _ ((l1.trans l2).trans lw) ⟨ad2, q.write (d' := .dct (putKs kkey (kvs.map (·.1))) (putDs kkey z (kvs.map (·.1)) ds)) ei ⟨_, upd_same, pk1, pk2.mono lw⟩⟩ q2'.2
        · exact q2'.elim
      · exact q2'.elim
    · exact q2'.elim
  · exact q1.elim⟩
end

/-! x op= e -/
def kA2 (i : Nat) (fs1 : Fs) (A : AEnds) (z : Zx) : Prop := free? fs1 i ∧ match z with
  | .dt w => A.nx (fs1.set i (.dat w))
  | .fr _ => False
def kA1 (i : Nat) (ar : AR2) (d : D) (A : AEnds) (y : Vx) (fs1 : Fs) : Prop := match y.at fs1 with
  | some e => ar d e (kA2 i fs1 A)
  | none => False
def aAug (i : Nat) (ar : AR2) (a : AX) (E : XP) (A : AEnds) (fs : Fs) : Prop := match fs[i]? with
  | some (.dat d) => aV a E fs (kA1 i ar d A)
  | _ => False
def arAddI (d e : D) (Q : Zx → Prop) : Prop := match d, e with
  | .int i, .int j => Q (.dt (.int (i + j)))
  | .str x, .str y => x.length + y.length ≤ sizeLine ∧ Q (.dt (.str (x ++ y)))
  | _, _ => False
def rAddI : R2 := fun x y H Q => rI0 (fun i j => .int (i + j)) x y H Q ∨ ∃ i j, x = .str i ∧ y = .str j ∧ i.length + j.length ≤ sizeLine ∧ Q (.str (i ++ j)) H
theorem iop_addA {X : Cx} : OpR X (inplaceOp .Add) rAddI := opr_or iop_add iop_add_str
theorem op2_addI {K : PySem.W.Frag} : Op2 K rAddI arAddI := fun W x y d e Q Q' dF hx hy h k => by
  unfold arAddI at h
  split at h
  · cases hx.int; cases hy.int
    exact .inl ⟨_, _, rfl, rfl, k _ _ W.H (Exs.refl _) (zx0 (.int _)) h⟩
  · cases hx.str; cases hy.str
    exact .inr ⟨_, _, rfl, rfl, h.1, k _ _ W.H (Exs.refl _) (zx0 (.str _)) h.2⟩
  · exact h.elim
section
variable {X : Cx} {Ec : L2.St → XK} {e : Expr} {t : TE} {a : AX} {pos pos' : Pos} {x : Str}
theorem sx_aug (i : Nat) {op : Operator} {r : R2} {ar : AR2} (ho : OpR X (inplaceOp op) r) (hs : Op2 X.K r ar) (hN : X.N.Nodup) (h : EX X Ec e a) (hi : X.N[i]? = some x := by rfl) (hx : Loc X.env.scope x := by first | exact .inl rfl | exact .inr rfl)
    (hf : X.fn x = true ∨ X.env.scope.names.lookup x = some .local := by first | exact .inl rfl | exact .inr rfl | assumption) : SX X Ec (.AugAssign (.Name x pos') op e pos) (aAug i ar a) := SXt.x ⟨ps_aug hN hi hx h.p ho hf, fun c σ W fs E D A F ad ha k => by
  have ha' : (match fs[i]? with
    | some (.dat d) => aV a E fs (kA1 i ar d A)
    | _ => False) := ha
  split at ha'
  · rename_i d ed
    obtain ⟨ad0, q0⟩ := id F
    obtain ⟨v, e1, r1⟩ := q0.dat ed
    refine ⟨v, e1, ?_⟩
    refine h.s.v c σ W fs E _ _ F ad ha' fun u y W1 fs1 l1 F1 r2 q1 => ?_
    unfold kA1 at q1
    split at q1
    · rename_i ee eey
      refine hs W1 v u d ee _ _ F1.dF (.inl (r1.mono l1)) (Vw.of F1 r2 eey) q1 fun w z H' ex ok q => ?_
      cases z with
      | dt wd => exact k.nx _ ⟨H', W1.F⟩ _ (l1.trans (Le.grow ex F1.dF)) ((F1.grow ex).setD q.1 ok) q.2
      | fr wd => exact q.2.elim
    · exact q1.elim
  · exact ha'.elim⟩
end

/-! names of the module -/
section
variable {X : Cx} {Ec : L2.St → XK} {pos : Pos} {x : Str}
theorem ex_glob {v : V} {u : Value} {d : D} (hm : X.mg x = some u) (hr : RelV v u) (hd : ∀ W, Rep X.K W v d) (hg : Gl X x := by rfl) (hdb : (x == ("__debug__" : Str)) = false := by decide) : EX X Ec (.Name x pos) (aC d) := EXt.x ⟨pe_glob hg hm hr hdb, snd_c hd⟩
end
/-- what a name of the module holds, as data -/
structure GlD (K : PySem.W.Frag) (mg : Str → Option Value) (x : Str) (d : D) : Prop where
  ex : ∃ (v : V) (u : Value), mg x = some u ∧ RelV v u ∧ ∀ W, Rep K W v d
theorem GlD.str {K : PySem.W.Frag} {mg : Str → Option Value} {x z : Str} {t : Tok} (h : mg x = some (.str z t)) : GlD K mg x (.str z) := ⟨.str z, _, h, ⟨t, rfl⟩, fun _ => .str z⟩
theorem GlD.int {K : PySem.W.Frag} {mg : Str → Option Value} {x : Str} {i : Int} {t : Tok} (h : mg x = some (.int i t)) : GlD K mg x (.int i) := ⟨.int i, _, h, ⟨t, rfl⟩, fun _ => .int i⟩
/-- a tuple of texts of the module -/
theorem GlD.strs {K : PySem.W.Frag} {mg : Str → Option Value} {x : Str} {p : Addr} {o : Obj} {its : Array Value} {n : Nat} {zs : List Str} (h : mg x = some (.ref p)) (hk : K.lookup p = some o) (hc : o.cls = .type "tuple") (hd : o.data = .seq its n)
    (hz : its.size ≤ sizeLine) (hv : Vals (zs.map V.str) its.toList) : GlD K mg x (.tup (zs.map D.str)) := ⟨.ref p, _, h, rfl, fun W => .tup (.inr ⟨o, its, n, hk, hc, hd, hz, hv⟩) (Reps.strs zs)⟩

/-! methods of texts -/
def kMS2 (f : Str → List D → (Zx → Prop) → Prop) (z : Str) (Q : Rx → Fs → Prop) (rs : List Vx) (fs2 : Fs) : Prop := match Vx.ats fs2 rs with
  | some ds => f z ds (kZ Q fs2)
  | none => False
def kMS1 (f : Str → List D → (Zx → Prop) → Prop) (as : AVs) (E : XP) (Q : Rx → Fs → Prop) (x : Vx) (fs1 : Fs) : Prop := match x with
  | .dt (.str z) => as E fs1 (kMS2 f z Q)
  | _ => False
def aMS (f : Str → List D → (Zx → Prop) → Prop) (a : AX) (as : AVs) (E : XP) (fs : Fs) (Q : Rx → Fs → Prop) : Prop := aV a E fs (kMS1 f as E Q)
/-- a text's method by values -/
def MsS (K : PySem.W.Frag) (r : V → List V → Hp → VK → Prop) (f : Str → List D → (Zx → Prop) → Prop) : Prop := ∀ (W : Wd) (z : Str) (vs : List V) (ds : List D) (Q : VK) (Q' : Zx → Prop), (∀ b, W.F b → W.H b ≠ none) → Vws K W vs ds → f z ds Q' →
  (∀ v z H', Exs W.H H' → ZxOk K W ⟨H', W.F⟩ v z → Q' z → Q v H') → r (.str z) vs W.H Q
section
variable {X : Cx} {Ec : L2.St → XK} {o e : Expr} {es : List Expr} {to : TE} {ta : TA} {a : AX} {as : List AX} {apos cpos : Pos} {name : Str} {id : String} {r : V → List V → Hp → VK → Prop} {f : Str → List D → (Zx → Prop) → Prop}
theorem snd_ms (h : SndX X.K Ec to a) (h2 : SndVs X.K Ec ta (aVs as)) (hs : MsS X.K r f) : SndX X.K Ec (tBM X.K "str" r to ta) (aMS f a (aVs as)) := fun c σ W fs E Q Q' F A ha k => by
  refine h.v c σ W fs E _ _ F A ha fun v x W1 fs1 l1 F1 r1 q1 => ?_
  cases x with
  | sl i => exact q1.elim
  | dt d => cases d with
    | str z =>
      have r1' := r1.1
      cases r1'
      refine ⟨rfl, ?_⟩
      have q1' : aVs as E fs1 (kMS2 f z Q') := q1
      refine h2 c σ W1 fs1 E _ _ F1 A q1' fun vs rs W2 fs2 l2 F2 k2 q2 => ?_
      unfold kMS2 at q2
      split at q2
      · rename_i ds eds
        refine hs W2 z vs ds Q _ F2.dF (Vws.of F2 k2 eds) q2 fun w z H' ex ok q => ?_
        exact k w z.rx ⟨H', W2.F⟩ fs2 ((l1.trans l2).trans (Le.grow ex F2.dF)) (F2.grow ex) (F2.zx ex ok) q
      · exact q2.elim
    | _ => exact q1.elim
theorem snd_ms0 (h : SndX X.K Ec to a) (hs : MsS X.K r f) : SndX X.K Ec (tBM0 X.K "str" r to) (aMS f a (aVs [])) := fun c σ W fs E Q Q' F A ha k => by
  refine h.v c σ W fs E _ _ F A ha fun v x W1 fs1 l1 F1 r1 q1 => ?_
  cases x with
  | sl i => exact q1.elim
  | dt d => cases d with
    | str z =>
      have r1' := r1.1
      cases r1'
      refine ⟨rfl, ?_⟩
      exact hs W1 z [] [] Q _ F1.dF trivial q1 fun w z H' ex ok q => k w z.rx ⟨H', W1.F⟩ fs1 (l1.trans (Le.grow ex F1.dF)) (F1.grow ex) (F1.zx ex ok) q
    | _ => exact q1.elim
theorem ex_ms (pa : PlainAttrs "str") (slot : Slot "str" name id) (hty : typeOf (.builtin id) = pure (.type "method_descriptor")) (hm : MtR X id r) (hs : MsS X.K r f) (h : EX X Ec o a) (ha : EVs X Ec (e :: es) (aVs as))
    (hbase : attributeBase o name X.env (eval o X.env) = eval o X.env := by rfl)
    (hfew : ((backTo cpos (starEach (e :: es) X.env)).all (fun x => !x.1) && (backToKw cpos (keywordEach [] X.env)).all (fun x => x.1.isSome)
      && decide ((e :: es).length + ([] : List Keyword).length + (if ([] : List Keyword).isEmpty then 0 else 1) < 30)) = true := by rfl)
    (hline : (apos.endLine == cpos.line) = true := by rfl) (hst : starEach (e :: es) X.env = (false, eval e X.env) :: starEach es X.env := by rfl) (hplain : (backTo cpos (starEach es X.env)).any (·.1) = false := by rfl) :
    EX X Ec (.Call (.Attribute o name apos) (e :: es) [] cpos) (aMS f a (aVs as)) := EXt.x ⟨pe_bm pa slot hty hm h.p ha.p hbase hfew hline hst hplain, snd_ms h.s ha.s hs⟩
theorem ex_ms0 (pa : PlainAttrs "str") (slot : Slot "str" name id) (hty : typeOf (.builtin id) = pure (.type "method_descriptor")) (hm : MtR X id r) (hs : MsS X.K r f) (h : EX X Ec o a)
    (hbase : attributeBase o name X.env (eval o X.env) = eval o X.env := by rfl) (hline : (apos.endLine == cpos.line) = true := by rfl) :
    EX X Ec (.Call (.Attribute o name apos) [] [] cpos) (aMS f a (aVs [])) := EXt.x ⟨pe_bm0 pa slot hty hm h.p hbase hline, snd_ms0 h.s hs⟩
end
end G

namespace G
open PySem PySem.Spec PyProof.Rows L2

theorem op2_sub {K : PySem.W.Frag} : Op2 K (rI0 fun i j => .int (i - j)) arSub := op2_I0 fun _ _ _ => .int _
theorem op2_mul {K : PySem.W.Frag} : Op2 K (rI CMul fun i j => .int (i * j)) arMul := op2_I fun _ _ _ => .int _
theorem op2_div {K : PySem.W.Frag} : Op2 K (rI CDiv fun i j => .int (i / j)) arDiv := op2_I fun _ _ _ => .int _
theorem op2_mod {K : PySem.W.Frag} : Op2 K (rI (fun _ j => 0 < j) fun i j => .int (i % j)) arMod := op2_I fun _ _ _ => .int _
theorem op2_pow {K : PySem.W.Frag} : Op2 K (rI CPow fun i j => .int (i ^ j.toNat)) arPow := op2_I fun _ _ _ => .int _
theorem op2_lt {K : PySem.W.Frag} : Op2 K (rI0 fun i j => .bl (decide (i < j))) arLt := op2_I0 fun _ _ _ => .bl _
theorem op2_le {K : PySem.W.Frag} : Op2 K (rI0 fun i j => .bl (decide (i ≤ j))) arLe := op2_I0 fun _ _ _ => .bl _
theorem op2_gt {K : PySem.W.Frag} : Op2 K (rI0 fun i j => .bl (decide (i > j))) arGt := op2_I0 fun _ _ _ => .bl _
theorem op2_ge {K : PySem.W.Frag} : Op2 K (rI0 fun i j => .bl (decide (i ≥ j))) arGe := op2_I0 fun _ _ _ => .bl _
def faInt (d : D) (Q : Zx → Prop) : Prop := match d with
  | .int i => Q (.dt (.int i))
  | .bl b => Q (.dt (.int (if b then 1 else 0)))
  | _ => False
theorem boot_t_str : bootBuiltins "str" = some (.type "str") := by decide +kernel
theorem boot_t_int : bootBuiltins "int" = some (.type "int") := by decide +kernel
theorem boot_t_bool : bootBuiltins "bool" = some (.type "bool") := by decide +kernel
theorem boot_t_tuple : bootBuiltins "tuple" = some (.type "tuple") := by decide +kernel
theorem boot_t_list : bootBuiltins "list" = some (.type "list") := by decide +kernel
theorem boot_t_dict : bootBuiltins "dict" = some (.type "dict") := by decide +kernel
theorem boot_b_len : bootBuiltins "len" = some (.builtin "len") := by decide +kernel
theorem boot_b_abs : bootBuiltins "abs" = some (.builtin "abs") := by decide +kernel
theorem boot_b_max : bootBuiltins "max" = some (.builtin "max") := by decide +kernel
theorem boot_b_min : bootBuiltins "min" = some (.builtin "min") := by decide +kernel
theorem boot_b_all : bootBuiltins "all" = some (.builtin "all") := by decide +kernel
theorem boot_b_any : bootBuiltins "any" = some (.builtin "any") := by decide +kernel

theorem opn_int {K : PySem.W.Frag} : Opn K (fun xs H Q => (∃ i, xs = [V.int i] ∧ Q (V.int i) H) ∨ ∃ k, xs = [V.bl k] ∧ Q (V.int (if k = true then 1 else 0)) H) (ar1 faInt) := opn1 fun W v d Q Q' dF hv h k => by
  unfold faInt at h
  split at h
  · cases hv.int
    exact .inl ⟨_, rfl, k _ _ W.H (Exs.refl _) (zx0 (.int _)) h⟩
  · cases hv.bl
    exact .inr ⟨_, rfl, k _ (.dt (.int _)) W.H (Exs.refl _) (zx0 (.int _)) h⟩
  · exact h.elim

/-! what the text's module holds -/
section
variable {X : Cx} {Ec : L2.St → XK} {pos : Pos} {x : Str} {d : D}
theorem ex_gl (h : GlD X.K X.mg x d) (hg : Gl X x := by rfl) (hdb : (x == ("__debug__" : Str)) = false := by decide) : EX X Ec (.Name x pos) (aC d) := by
  obtain ⟨u, h1, h2, h3⟩ := h.ex.choose_spec
  exact ex_glob h1 h2 h3 hg hdb
end
structure FnF (K : PySem.W.Frag) (mg : Str → Option Value) (x : Str) (st : Stmt) : Prop where
  ex : ∃ f fd, Fun K x x st f fd ∧ mg x = some (.ref f)
theorem fnF_mk {K : PySem.W.Frag} {mg : Str → Option Value} {x : Str} {st : Stmt} {f : Addr} {fd : FuncData} (h : mg x = some (.ref f)) (F : Fun K x x st f fd) : FnF K mg x st := ⟨f, fd, F, h⟩
theorem fnc_of {P : Program} {w : World} {K : PySem.W.Frag} {mg : Str → Option Value} {base : Heap} {CX : CXT} {k : Nat} {x : Str} {st : Stmt} {ps : List Str} {sp : ASp} (h : FnF K mg x st)
    (hb : ∀ (kV doc pm : Value) (an : Option Addr) (cdv ct : Value) (us : List Value), us.length = ps.length → bindArgs (PySem.W.fnOf x x (defArgs st) (defBody st) (defScope st) .none kV doc pm an cdv ct) ⟨us, []⟩ = pure (ps.zip us))
    (ok : ∀ f fd, Fun K x x st f fd → FnOk P w K mg base CX k f fd ps (spOf K sp)) : FnC P w K mg base CX k x sp := by
  obtain ⟨f, fd, F, hm⟩ := h.ex
  exact ⟨f, fd, ps, ok f fd F, hm, F.kp, F.binds hb⟩

/-! calls without arguments -/
section
variable {X : Cx} {CX : CXT} {k : Nat} {x : Str} {sp : ASp} {p pos : Pos}
theorem ex_call0 (hf : FnC X.prog X.w X.K X.mg X.base CX k x sp) (hr : Room k X.A) (hx : Passes CX X E0) (hg : Gl X x := by rfl) (hdb : (x == ("__debug__" : Str)) = false := by decide) :
    EX X (fun _ => E0) (.Call (.Name x p) [] [] pos) (aCall sp (aVs [])) := by
  obtain ⟨f, fd, ps, h1, h2, h3, h4⟩ := hf.ex
  refine EXt.x ⟨pe_call0 h1 hr hg h2 h3 h4 .nil hx hdb, fun c σ W fs E Q Q' F A ha kk => ?_⟩
  exact (snd_call (sp := sp) (ta := tNil) (a := aVs []) fun c σ W fs E Q Q' F A h k => k [] [] W fs (Le.refl W) F trivial h) c σ W fs E Q Q' F A ha kk
end

/-! minus -/
def kNeg (Q : Rx → Fs → Prop) (r : Rx) (fs1 : Fs) : Prop := match r with
  | .dt (.int i) => Q (.dt (.int (-i))) fs1
  | _ => False
def aNeg (a : AX) (E : XP) (fs : Fs) (Q : Rx → Fs → Prop) : Prop := a E fs (kNeg Q)
section
variable {X : Cx} {Ec : L2.St → XK} {e : Expr} {t : TE} {a : AX} {pos : Pos}
theorem ex_neg (h : EX X Ec e a) : EX X Ec (.UnaryOp .USub e pos) (aNeg a) := EXt.x ⟨pe_un un_neg h.p, fun c σ W fs E Q Q' F A ha k => by
  refine h.s c σ W fs E _ _ F A ha fun v r W1 fs1 l1 F1 r1 q1 => ?_
  cases r with
  | dt d => cases d with
    | int i =>
      have r1' : Rep X.K W1 v (.int i) := r1
      cases r1'
      exact ⟨i, rfl, k _ (.dt (.int (-i))) W1 fs1 l1 F1 (.int _) q1⟩
    | _ => exact q1.elim
  | _ => exact q1.elim⟩
end

/-! what is walked: a list, a tuple or a text, as it comes -/
def iAny (K : PySem.W.Frag) (tl : TE) : TI := fun σ H R => tl σ H fun x H1 => (∃ a, x = .ref a ∧ (∃ xs, SqL K H1 a xs) ∧ R (Itl K a) H1) ∨ (∃ a, x = .ref a ∧ (∃ xs, SqT K H1 a xs) ∧ R (Itt K a) H1) ∨ ∃ z, x = .str z ∧ R (Its z) H1
theorem pi_any {X : Cx} {tg l : Expr} {tl : TE} (hl : PE X l tl) : PI X tg l (iAny X.K tl) := by
  refine ⟨fun pins st σ H R I h => ?_⟩
  refine thn (hl.run pins st σ H _ I h) fun val sA ⟨x, HA, IA, rel, q⟩ => ?_
  rcases q with ⟨a, e, ⟨xs, hq⟩, q⟩ | ⟨a, e, ⟨xs, hq⟩, q⟩ | ⟨z, e, q⟩
  · subst e; cases rel
    obtain ⟨its, rv, pl, hz⟩ := IA.list hq
    refine wpAny_pyIter_list pl.isList ⟨sA.heap.objs.size, [sA.heap.objs.size], _, _, HA, rfl, IA.kept (t' := sA.toks) (fun b o e => Heap.get?_push_of_some _ e), turn_list a _, ⟨_, Heap.get?_push_size _ rfl, rfl, rfl⟩, fun b hb => ?_, q⟩
    rw [List.mem_singleton] at hb
    exact hb ▸ IA.fpOk (Nat.le_refl _) (IA.hok.fresh (Nat.le_refl _))
  · subst e; cases rel
    obtain ⟨its, rv, pl, hz⟩ := IA.tuple hq
    refine wpAny_pyIter_tuple (show sA.heap.IsTuple a its.toArray from pl) ⟨sA.heap.objs.size, [sA.heap.objs.size], _, _, HA, rfl, IA.kept (t' := sA.toks) (fun b o e => Heap.get?_push_of_some _ e), turn_tuple a _, ⟨_, Heap.get?_push_size _ rfl, rfl, rfl⟩, fun b hb => ?_, q⟩
    rw [List.mem_singleton] at hb
    exact hb ▸ IA.fpOk (Nat.le_refl _) (IA.hok.fresh (Nat.le_refl _))
  · subst e
    obtain ⟨t, rfl⟩ := rel
    cases ha : z.cps.all (· < 128)
    · exact wpAny_pyIter_wide ha (pi_one (tk := sA.toks) IA _ (turn_str _ z t "str_iterator" (.inr rfl)) ⟨_, Heap.get?_push_size _ rfl, rfl, rfl⟩ q)
    · exact wpAny_pyIter_ascii ha (pi_one (tk := sA.toks) IA _ (turn_str _ z t "str_ascii_iterator" (.inl rfl)) ⟨_, Heap.get?_push_size _ rfl, rfl, rfl⟩ q)
def sgD (x : Str) : List D := x.cps.toList.map fun c => .str ⟨#[c]⟩
def kIA (Q : List D → Fs → Prop) (d : D) (fs1 : Fs) : Prop := match d with
  | .lst ds => Q ds fs1
  | .tup ds => Q ds fs1
  | .str x => Q (sgD x) fs1
  | _ => False
def aIA (a : AX) (E : XP) (fs : Fs) (Q : List D → Fs → Prop) : Prop := aD a E fs (kIA Q)
section
variable {X : Cx} {Ec : L2.St → XK} {tg e : Expr} {t : TE} {a : AX}
theorem wk_list {K : PySem.W.Frag} {W : Wd} {p : Addr} {vs : List V} {ds : List D} (st : ∀ W2, Le W W2 → SqL K W2.H p vs) (r : Reps K W vs ds) : Wk K (Itl K p) W ds :=
  ⟨fun i W2 l hi => ⟨vs, vs[i]'(by rw [r.len]; exact hi), st W2 l, List.getElem?_eq_getElem _⟩, fun i W2 l hi => ⟨vs, st W2 l, by rw [r.len]; exact Nat.le_of_eq hi.symm⟩, fun i W2 x H' l dF y hi => by
    obtain ⟨rfl, y⟩ := y
    obtain ⟨d, e1, e2⟩ := r.get' (y vs (st W2 l))
    exact ⟨d, e1, Exs.refl _, e2.mono l⟩⟩
theorem wk_tup {K : PySem.W.Frag} {W : Wd} {p : Addr} {vs : List V} {ds : List D} (st : SqT K W.H p vs) (r : Reps K W vs ds) : Wk K (Itt K p) W ds :=
  ⟨fun i W2 l hi => ⟨vs, vs[i]'(by rw [r.len]; exact hi), l.sqT st, List.getElem?_eq_getElem _⟩, fun i W2 l hi => ⟨vs, l.sqT st, by rw [r.len]; exact Nat.le_of_eq hi.symm⟩, fun i W2 x H' l dF y hi => by
    obtain ⟨rfl, y⟩ := y
    obtain ⟨d, e1, e2⟩ := r.get' (y vs (l.sqT st))
    exact ⟨d, e1, Exs.refl _, e2.mono l⟩⟩
theorem wk_str {K : PySem.W.Frag} {W : Wd} {x : Str} : Wk K (Its x) W (sgD x) := by
  have hl : (sgD x).length = x.cps.size := by simp [sgD]
  refine ⟨fun i W2 l hi => by rw [hl] at hi; exact hi, fun i W2 l hi => by rw [hl] at hi; exact Nat.le_of_eq hi.symm, fun i W2 v H' l dF y hi => ?_⟩
  obtain ⟨rfl, c, e1, rfl⟩ := y
  refine ⟨.str ⟨#[c]⟩, ?_, Exs.refl _, .str _⟩
  unfold sgD
  rw [List.getElem?_map, Array.getElem?_toList, e1]
  rfl
theorem ix_seq (h : EX X Ec e a) : IX X Ec tg e (aIA a) := IXt.x ⟨pi_any h.p, fun c σ W fs E R Q' F A ha k => by
  refine h.s.dd c σ W fs E _ _ F A ha fun v d W1 fs1 l1 F1 r1 q1 => ?_
  cases d with
  | lst ds =>
    obtain ⟨p, vs, rfl, st, r⟩ := rep_lst r1
    exact .inl ⟨p, rfl, ⟨vs, st W1 (Le.refl W1)⟩, k _ ds W1 fs1 l1 F1 (wk_list st r) q1⟩
  | tup ds =>
    cases r1 with
    | @tup p vs _ hq r => exact .inr (.inl ⟨p, rfl, ⟨vs, hq⟩, k _ ds W1 fs1 l1 F1 (wk_tup hq r) q1⟩)
  | str x =>
    cases r1
    exact .inr (.inr ⟨x, rfl, k _ _ W1 fs1 l1 F1 wk_str q1⟩)
  | _ => exact q1.elim⟩
end

/-! a, b = e -/
def kUnp (g : AG) (A : AEnds) (d : D) (fs1 : Fs) : Prop := g d fs1 A.nx
def aUnp (a : AX) (g : AG) (E : XP) (A : AEnds) (fs : Fs) : Prop := aD a E fs (kUnp g A)
section
variable {X : Cx} {Ec : L2.St → XK} {tg e : Expr} {t : TE} {a : AX} {g : TG} {ag : AG} {pos : Pos}
theorem sx_unpack (h : EX X Ec e a) (hg : GX X tg ag) (hs : swapsWithSole [tg] e pos.line X.env = pure false := by rfl) (hw : swappedStores [tg] e X.env = pure none := by rfl)
    (h1 : (assignEach [tg] X.env).map (·.2) = [assign tg X.env] := by rfl) : SX X Ec (.Assign [tg] e pos) (aUnp a ag) := SXt.x ⟨ps_asg h.p hg.p hs hw h1, fun c σ W fs E D A F ad ha k => by
  refine h.s.dd c σ W fs E _ _ F ad ha fun v d W1 fs1 l1 F1 r1 q1 => ?_
  exact hg.s c σ W1 fs1 v d _ _ F1 r1 q1 fun σ' fs' F' q => k.nx σ' W1 fs' l1 F' q⟩
end

/-! the law's own start -/
theorem law_start {K : PySem.W.Frag} {sp : ASp} {H : Hp} {a : Addr} {ns : List Int} (pre : ∀ (ns : List Int) (Q : Sl → List Sl → Prop) (E : Value → XF → List Sl → Prop), ns.length ≤ 63 → (∀ as, Q (.dat (.bl true)) as) → sp [.dat (.lst (ns.map D.int))] Q E)
    (hn : ns.length ≤ 63) (hO : Only H) (hS : SqL K H a (ns.map V.int)) : spOf K sp [.ref a] H (fun v _ => v = .bl true) fun _ _ _ => False := by
  refine ⟨fun b => H b ≠ none, [.dat (.lst (ns.map D.int))], fun _ => 0, fun r _ => r = .dat (.bl true), fun _ _ _ => False, ⟨rfl, fun i v s ev es => ?_, fun i j d e e1 => ?_, fun b h => h⟩, pre ns _ _ hn (fun _ => rfl), fun v r args' W' af ro q => ?_, fun _ _ _ _ _ _ _ h => h⟩
  · cases i with
    | zero =>
      have e1 : V.ref a = v := by simpa using ev
      have e2 : Sl.dat (.lst (ns.map D.int)) = s := by simpa using es
      subst e1 e2
      rcases hS with (hS | ⟨o, hS⟩) | hS
      · exact .lst (by show H a ≠ none; rw [hS]; simp) (.inl hS) (Reps.ints ns)
      · exact .lst (by show H a ≠ none; rw [hS]; simp) (.inr ⟨o, hS⟩) (Reps.ints ns)
      · exact .lstK hS (Reps.ints ns)
    | succ i => simp at ev
  · cases i with
    | zero => simp at e1
    | succ i => simp at e1
  · subst q
    cases ro
    rfl

/-- a def that is never called -/
def sp_never : ASp := fun _ _ _ => False
theorem fnc_never {P : Program} {w : World} {K : PySem.W.Frag} {mg : Str → Option Value} {base : Heap} {CX : CXT} {k : Nat} {x : Str} {st : Stmt} {ps : List Str} (h : FnF K mg x st)
    (hb : ∀ (kV doc pm : Value) (an : Option Addr) (cdv ct : Value) (us : List Value), us.length = ps.length → bindArgs (PySem.W.fnOf x x (defArgs st) (defBody st) (defScope st) .none kV doc pm an cdv ct) ⟨us, []⟩ = pure (ps.zip us)) : FnC P w K mg base CX k x sp_never := by
  refine fnc_of (ps := ps) h hb fun f fd F => ⟨fun vs H Q E h => ?_, fun A outer s H args us vs Q E hr he hb hv h => ?_⟩
  · obtain ⟨_, _, _, _, _, _, h, _⟩ := h
    exact h.elim
  · obtain ⟨_, _, _, _, _, _, h, _⟩ := h
    exact h.elim
end G

namespace G
open PySem PySem.Spec PyProof.Rows L2

/-! reckoning helpers -/
def hs (x : Str) : Nat := x.cps.toList.foldl (fun a c => a * 1114113 + c + 1) 0
theorem hs_sgl {c : Nat} : hs ⟨#[c]⟩ = c + 1 := by simp [hs]
theorem str_ne {a b : Str} (h : hs a ≠ hs b) : (a = b) = False := eq_false fun e => h (by rw [e])
section
variable {α : Type} {x y z u v w : α} {r : List α}
theorem at0 : atI (x :: r) 0 = some x := atI_nat (j := 0) rfl
theorem at1 : atI (x :: y :: r) 1 = some y := atI_nat (j := 1) rfl
theorem at2 : atI (x :: y :: z :: r) 2 = some z := atI_nat (j := 2) rfl
theorem at3 : atI (x :: y :: z :: u :: r) 3 = some u := atI_nat (j := 3) rfl
theorem at4 : atI (x :: y :: z :: u :: v :: r) 4 = some v := atI_nat (j := 4) rfl
theorem at5 : atI (x :: y :: z :: u :: v :: w :: r) 5 = some w := atI_nat (j := 5) rfl
theorem atI_nn {l : List α} {i : Int} {j : Nat} {x : α} (h : i = j) (e : l[j]? = some x) : atI l i = some x := by
  subst h
  exact atI_nat e
end
theorem ixn_0 {n : Nat} (h : 0 < n) : ixN n 0 = some 0 := by
  unfold ixN
  rw [if_pos (by decide), if_pos (by omega)]
  rfl
theorem ixn_1 {n : Nat} (h : 1 < n) : ixN n 1 = some 1 := by
  unfold ixN
  rw [if_pos (by decide), if_pos (by omega)]
  rfl
theorem ixn_2 {n : Nat} (h : 2 < n) : ixN n 2 = some 2 := by
  unfold ixN
  rw [if_pos (by decide), if_pos (by omega)]
  rfl
theorem ixn_3 {n : Nat} (h : 3 < n) : ixN n 3 = some 3 := by
  unfold ixN
  rw [if_pos (by decide), if_pos (by omega)]
  rfl
theorem ixn_4 {n : Nat} (h : 4 < n) : ixN n 4 = some 4 := by
  unfold ixN
  rw [if_pos (by decide), if_pos (by omega)]
  rfl
theorem ixn_5 {n : Nat} (h : 5 < n) : ixN n 5 = some 5 := by
  unfold ixN
  rw [if_pos (by decide), if_pos (by omega)]
  rfl
/-- a for by an invariant -/
theorem forL_inv {g : AG} {b : AS} {E : XP} {A : AEnds} (I : Nat → Fs → Prop) {ds : List D} {fs : Fs} (h0 : I 0 fs)
    (step : ∀ (R : Fs → Prop) i d fs, ds[i]? = some d → (∀ fs', I (i + 1) fs' → R fs') → I i fs → g d fs (kFor b E A R)) (done : ∀ fs, I ds.length fs → A.nx fs) : forL g b E A ds fs := by
  have key : ∀ (es : List D) (i : Nat) (fs : Fs), ds.drop i = es → I i fs → i ≤ ds.length → forL g b E A es fs := by
    intro es
    induction es with
    | nil =>
      intro i fs hd hi hl
      have : i = ds.length := by
        have := congrArg List.length hd
        rw [List.length_drop, List.length_nil] at this
        omega
      exact done fs (this ▸ hi)
    | cons d es ih =>
      intro i fs hd hi hl
      have hlt : i < ds.length := by
        have := congrArg List.length hd
        rw [List.length_drop, List.length_cons] at this
        omega
      have hd2 : ds.drop i = ds[i] :: ds.drop (i + 1) := List.drop_eq_getElem_cons hlt
      rw [hd2] at hd
      obtain ⟨e1, e2⟩ := List.cons.inj hd
      exact step (forL g b E A es) i d fs (by rw [List.getElem?_eq_getElem hlt, e1]) (fun fs' h' => ih (i + 1) fs' e2 h' (by omega)) hi
  exact key ds 0 fs rfl h0 (Nat.zero_le _)
/-- .. the same at each turn -/
theorem forL_same {g : AG} {b : AS} {E : XP} {A : AEnds} (I : Fs → Prop) {ds : List D} {fs : Fs} (h0 : I fs)
    (step : ∀ (R : Fs → Prop) d fs, d ∈ ds → (∀ fs', I fs' → R fs') → I fs → g d fs (kFor b E A R)) (done : ∀ fs, I fs → A.nx fs) : forL g b E A ds fs :=
  forL_inv (fun _ => I) h0 (fun R i d fs e hR hi => step R d fs (List.mem_of_getElem? e) hR hi) done
theorem mem_rg {lo : Int} {n : Nat} {d : D} (h : d ∈ rgD lo n) : ∃ i : Nat, i < n ∧ d = .int (lo + i) := by
  unfold rgD at h
  rw [List.mem_map] at h
  obtain ⟨i, hi, rfl⟩ := h
  exact ⟨i, by simpa using hi, rfl⟩
theorem rg_get {lo : Int} {n i : Nat} {d : D} (h : (rgD lo n)[i]? = some d) : i < n ∧ d = .int (lo + i) := by
  have hl : i < (rgD lo n).length := (List.getElem?_eq_some_iff.mp h).1
  have hn : i < n := by simpa [rgD] using hl
  refine ⟨hn, ?_⟩
  simp [rgD, hn] at h
  exact h.symm
theorem rg_len {lo : Int} {n : Nat} : (rgD lo n).length = n := by simp [rgD]
/-- a comprehension by an invariant over what is done, what came, the frame -/
theorem compL_inv {g : AG} {t : AT} {e : AX} {vs : List Nat} {Q : List D → Fs → Prop} (I : Nat → List D → Fs → Prop) {ds : List D} {fs : Fs} (h0 : I 0 [] fs)
    (step : ∀ (R : List D → Fs → Prop) i d acc fs, ds[i]? = some d → (∀ acc' fs', I (i + 1) acc' fs' → R acc' fs') → I i acc fs →
      g d fs (kC1 t e vs (fun acc' fs' _ => R acc' fs') acc Q))
    (done : ∀ acc fs, I ds.length acc fs → Q acc fs) : compL g t e vs ds [] fs Q := by
  have key : ∀ (es : List D) (i : Nat) (acc : List D) (fs : Fs), ds.drop i = es → I i acc fs → i ≤ ds.length → compL g t e vs es acc fs Q := by
    intro es
    induction es with
    | nil =>
      intro i acc fs hd hi hl
      have : i = ds.length := by
        have := congrArg List.length hd
        rw [List.length_drop, List.length_nil] at this
        omega
      exact done acc fs (this ▸ hi)
    | cons d es ih =>
      intro i acc fs hd hi hl
      have hlt : i < ds.length := by
        have := congrArg List.length hd
        rw [List.length_drop, List.length_cons] at this
        omega
      have hd2 : ds.drop i = ds[i] :: ds.drop (i + 1) := List.drop_eq_getElem_cons hlt
      rw [hd2] at hd
      obtain ⟨e1, e2⟩ := List.cons.inj hd
      exact step (fun acc' fs' => compL g t e vs es acc' fs' Q) i d acc fs (by rw [List.getElem?_eq_getElem hlt, e1]) (fun acc' fs' h' => ih (i + 1) acc' fs' e2 h' (by omega)) hi
  exact key ds 0 [] fs rfl h0 (Nat.zero_le _)
theorem beq_str {a b : Str} : (a == b) = decide (a = b) := by
  by_cases h : a = b
  · simp [h]
  · rw [decide_eq_false h]; exact beq_eq_false_iff_ne.mpr h
end G

namespace G
open PySem PySem.Spec PyProof.Rows L2

theorem passE {X : Cx} {E : XK} : Passes CX0 X E := fun _ _ _ _ _ _ _ h => h.elim
/-! text methods -/
theorem Vws.zero {K : PySem.W.Frag} {W : Wd} : ∀ {vs : List V}, Vws K W vs [] → vs = []
  | [], _ => rfl
  | _ :: _, h => h.elim
def faSplit (z : Str) (ds : List D) (Q : Zx → Prop) : Prop := match ds with
  | [.str b] => (b.length == 0) = false ∧ z.length + 2 ≤ sizeLine ∧ Q (.fr (.lst ((Txt.split z b).map D.str)))
  | _ => False
theorem ms_split {K : PySem.W.Frag} : MsS K (fun x xs H Q => ∃ a b, x = .str a ∧ xs = [.str b] ∧ (b.length == 0) = false ∧ a.length + 2 ≤ sizeLine ∧ rNewStrs (Txt.split a b) H Q) faSplit := by
  intro W z vs ds Q Q' hF hv h k
  unfold faSplit at h
  split at h
  · rename_i b
    obtain ⟨v, rfl, hw⟩ := hv.one
    have e := hw.str
    subst e
    refine ⟨z, b, rfl, rfl, h.1, h.2.1, fun p np => ?_⟩
    exact k _ (.fr (.lst _)) _ (Exs.new np) ⟨p, rfl, np, fun f => hF p f np, _, upd_same, .strs _⟩ h.2.2
  · exact h.elim
def faUpper (z : Str) (ds : List D) (Q : Zx → Prop) : Prop := match ds with
  | [] => z.length ≤ 5592405 ∧ Q (.dt (.str (Txt.upper z)))
  | _ => False
theorem ms_upper {K : PySem.W.Frag} : MsS K (fun x xs H Q => ∃ a, x = .str a ∧ xs = [] ∧ a.length ≤ 5592405 ∧ Q (.str (Txt.upper a)) H) faUpper := by
  intro W z vs ds Q Q' hF hv h k
  unfold faUpper at h
  split at h
  · have e := hv.zero
    subst e
    exact ⟨z, rfl, rfl, h.1, k _ (.dt _) W.H (Exs.refl _) (.str _) h.2⟩
  · exact h.elim
def faStarts (z : Str) (ds : List D) (Q : Zx → Prop) : Prop := match ds with
  | [.str b] => Q (.dt (.bl (Txt.startswith z b)))
  | _ => False
theorem ms_startswith {K : PySem.W.Frag} : MsS K (fun x xs H Q => ∃ a b, x = .str a ∧ xs = [.str b] ∧ Q (.bl (Txt.startswith a b)) H) faStarts := by
  intro W z vs ds Q Q' hF hv h k
  unfold faStarts at h
  split at h
  · rename_i b
    obtain ⟨v, rfl, hw⟩ := hv.one
    have e := hw.str
    subst e
    exact ⟨z, b, rfl, rfl, k _ (.dt _) W.H (Exs.refl _) (.bl _) h⟩
  · exact h.elim

/-! dict displays -/
def aPs (K : PySem.W.Frag) : Type := Unit
abbrev AP := XP → Fs → (List (D × D) → Fs → Prop) → Prop
def RepP (K : PySem.W.Frag) (W : Wd) : List (V × V) → List (D × D) → Prop
  | [], [] => True
  | (a, b) :: r, (x, y) :: s => Rep K W a x ∧ Rep K W b y ∧ RepP K W r s
  | _, _ => False
theorem RepP.mono {K : PySem.W.Frag} {W W' : Wd} (l : Le W W') : ∀ {ps : List (V × V)} {ds : List (D × D)}, RepP K W ps ds → RepP K W' ps ds
  | [], [], _ => trivial
  | (a, b) :: r, (x, y) :: s, h => ⟨h.1.mono l, h.2.1.mono l, RepP.mono l h.2.2⟩
  | [], _ :: _, h => h.elim
  | _ :: _, [], h => h.elim
def SndP (K : PySem.W.Frag) (trs : List (TE × TE)) (a : AP) : Prop :=
  ∀ (c : Cn) (σ : L2.St) (W : Wd) (fs : Fs) (Q : List (V × V) → Hp → Prop) (Q' : List (D × D) → Fs → Prop), Fr K c σ W fs → a X0 fs Q' →
    (∀ ps ds W' fs', Le W W' → Fr K c σ W' fs' → RepP K W' ps ds → Q' ds fs' → Q ps W'.H) → tPairs trs σ W.H Q
structure EPs (X : Cx) (pos : Pos) (keys : List (Option Expr)) (values : List Expr) (a : AP) : Prop where
  ex : ∃ trs, PPs X pos keys values trs ∧ SndP X.K trs a
  all : keys.all (·.isSome) = true
  len : keys.length = values.length
def apNil (E : XP) (fs : Fs) (Q : List (D × D) → Fs → Prop) : Prop := Q [] fs
def kPc (x y : D) (Q : List (D × D) → Fs → Prop) (ps : List (D × D)) (fs : Fs) : Prop := Q ((x, y) :: ps) fs
def kPb (r : AP) (E : XP) (x : D) (Q : List (D × D) → Fs → Prop) (y : D) (fs : Fs) : Prop := r E fs (kPc x y Q)
def kPa (b : AX) (r : AP) (E : XP) (Q : List (D × D) → Fs → Prop) (x : D) (fs : Fs) : Prop := aD b E fs (kPb r E x Q)
def apCons (a b : AX) (r : AP) (E : XP) (fs : Fs) (Q : List (D × D) → Fs → Prop) : Prop := aD a E fs (kPa b r E Q)
section
variable {X : Cx} {Ec : L2.St → XK} {k v : Expr} {pos : Pos} {ks : List (Option Expr)} {vs : List Expr} {a b : AX} {r : AP}
theorem eps_nil : EPs X pos [] [] apNil := ⟨⟨[], pps_nil, fun c σ W fs Q Q' F h kk => kk [] [] W fs (Le.refl W) F trivial h⟩, rfl, rfl⟩
theorem eps_cons (hk : EX X (fun _ => E0) k a) (hv : EX X (fun _ => E0) v b) (hr : EPs X pos ks vs r) : EPs X pos (some k :: ks) (v :: vs) (apCons a b r) := by
  obtain ⟨⟨trs, p, s⟩, al, ln⟩ := hr
  refine ⟨⟨_, pps_cons hk.p hv.p p, fun c σ W fs Q Q' F h kk => ?_⟩, by rw [List.all_cons, al]; rfl, by rw [List.length_cons, List.length_cons, ln]⟩
  refine hk.s.dd c σ W fs X0 _ _ F AdX.x0 h fun x dx W1 fs1 l1 F1 r1 q1 => ?_
  refine hv.s.dd c σ W1 fs1 X0 _ _ F1 AdX.x0 q1 fun y dy W2 fs2 l2 F2 r2 q2 => ?_
  refine s c σ W2 fs2 _ _ F2 q2 fun ps ds W3 fs3 l3 F3 r3 q3 => ?_
  exact kk _ ((dx, dy) :: ds) W3 fs3 ((l1.trans l2).trans l3) F3 ⟨r1.mono (l2.trans l3), r2.mono l3, r3⟩ q3
end
def keysD : List (D × D) → Option (List Key)
  | [] => some []
  | (x, _) :: r => match keyD x, keysD r with
    | some k, some ks => some (k :: ks)
    | _, _ => none
def ndK (ks : List Key) : Bool := decide (ks.Nodup ∧ ks.length ≤ 15)
def kDisp (Q : Rx → Fs → Prop) (ps : List (D × D)) (fs : Fs) : Prop := match keysD ps with
  | some ks => ndK ks = true ∧ Q (.fr (.dct ks (ps.map (·.2)))) fs
  | none => False
def aDisp (a : AP) (E : XP) (fs : Fs) (Q : Rx → Fs → Prop) : Prop := a X0 fs (kDisp Q)
theorem merge_nd : ∀ {more acc : List (Key × V)}, (acc.map (·.1) ++ more.map (·.1)).Nodup → mergeK acc more = acc ++ more := by
  intro more
  induction more with
  | nil => intro acc _; exact (List.append_nil acc).symm
  | cons p r ih =>
    intro acc h
    have hn : (acc.any fun kv => decide (kv.1 = p.1)) = false := by
      rw [List.any_eq_false]
      intro kv hm e
      rw [List.nodup_append] at h
      exact h.2.2 kv.1 (List.mem_map.mpr ⟨kv, hm, rfl⟩) p.1 (by simp) (by simpa using e)
    have : mergeK acc (p :: r) = mergeK (acc ++ [p]) r := by
      show mergeK (putK acc p.1 p.2) r = _
      unfold putK
      rw [hn, if_neg (by decide)]
    rw [this, ih (by simpa using h), List.append_assoc]
    rfl
theorem keysD_kv {K : PySem.W.Frag} {W : Wd} : ∀ {ps : List (V × V)} {ds : List (D × D)} {ks : List Key}, RepP K W ps ds → keysD ds = some ks →
    ∃ kvs : List (Key × V), ps = kvs.map (fun kv => (L2.kV kv.1, kv.2)) ∧ kvs.map (·.1) = ks ∧ Reps K W (kvs.map (·.2)) (ds.map (·.2))
  | [], [], ks, _, e => by cases e; exact ⟨[], rfl, rfl, .nil⟩
  | (a, b) :: r, (x, y) :: s, ks, h, e => by
    unfold keysD at e
    split at e
    · rename_i k ks1 e1 e2
      cases e
      obtain ⟨kvs, p1, p2, p3⟩ := keysD_kv h.2.2 e2
      refine ⟨(k, b) :: kvs, ?_, by rw [List.map_cons, p2], .cons h.2.1 p3⟩
      rw [List.map_cons, ← p1, keyD_view (.inl h.1) e1]
    · cases e
  | [], _ :: _, _, h, _ => h.elim
  | _ :: _, [], _, h, _ => h.elim
theorem RepP.len {K : PySem.W.Frag} {W : Wd} : ∀ {ps : List (V × V)} {ds : List (D × D)}, RepP K W ps ds → ps.length = ds.length
  | [], [], _ => rfl
  | (a, b) :: r, (x, y) :: s, h => by rw [List.length_cons, List.length_cons, RepP.len h.2.2]
  | [], _ :: _, h => h.elim
  | _ :: _, [], h => h.elim
theorem Fr.hold {K : PySem.W.Frag} {c : Cn} {σ' : L2.St} {W' : Wd} {fs' : Fs} {p : Addr} {o : HO} (F' : Fr K c σ' W' fs') (eD : W'.H p = some o) (nf : ¬ W'.F p) (no : ∀ (i : Nat) (b : Bool) (d : D), fs'[i]? = some (.own b d) → σ'[i]? ≠ some (some (.ref p))) :
    Fr K { c with kp := fun b => if b = p then some o else c.kp b } σ' W' fs' := by
  obtain ⟨ad, q⟩ := F'
  refine ⟨ad, q.len, q.le, q.slot, q.sep, q.keep, q.kF, q.nF, q.dF, q.loc, q.brw, q.pin, fun b o' e => ?_⟩
  have e' : (if b = p then some o else c.kp b) = some o' := e
  by_cases hb : b = p
  · subst hb
    rw [if_pos rfl] at e'
    cases e'
    exact ⟨eD, nf, fun i p d ei z => no i p d ei (z ▸ (q.own ei).1)⟩
  · rw [if_neg hb] at e'
    exact q.kp b o' e'
theorem Fr.unhold {K : PySem.W.Frag} {c : Cn} {σ' : L2.St} {W' : Wd} {fs' : Fs} {p : Addr} {o : HO} (F' : Fr K { c with kp := fun b => if b = p then some o else c.kp b } σ' W' fs') (hDk : c.kp p = none) :
    Fr K c σ' W' fs' ∧ W'.H p = some o ∧ ¬ W'.F p ∧ (∀ (i : Nat) (b : Bool) (d : D), fs'[i]? = some (.own b d) → σ'[i]? ≠ some (some (.ref p))) := by
  obtain ⟨ad, q⟩ := F'
  obtain ⟨z1, z2, z3⟩ := q.kp p o (if_pos rfl)
  refine ⟨⟨ad, q.len, q.le, q.slot, q.sep, q.keep, q.kF, q.nF, q.dF, q.loc, q.brw, q.pin, fun b o' e => ?_⟩, z1, z2, fun i b d ei z => ?_⟩
  · have hb : b ≠ p := fun z => by subst z; rw [hDk] at e; cases e
    exact q.kp b o' ((if_neg hb).trans e)
  · have := (q.own ei).1
    rw [this] at z
    cases z
    exact z3 i b d ei rfl
section
variable {X : Cx} {Ec : L2.St → XK} {pos : Pos} {ks : List (Option Expr)} {vs : List Expr} {a : AP}
theorem ex_disp (h : EPs X pos ks vs a) (h0 : ks ≠ [] := by intro z; cases z) (h15 : ks.length ≤ 15 := by decide) : EX X Ec (.Dict ks vs pos) (aDisp a) := by
  obtain ⟨⟨trs, p, s⟩, al, ln⟩ := h
  refine EXt.x ⟨pe_disp p al ln h0 h15, fun c σ W fs E Q Q' F A ha k P hP => ?_⟩
  have ex : Exs W.H (upd W.H P (.dK [])) := Exs.new hP
  have nF : ¬ W.F P := fun f => F.dF P f hP
  have F0 := (F.grow ex).hold (p := P) (o := .dK []) upd_same nF fun i b d e => F.newS hP e
  refine s _ σ ⟨_, W.F⟩ fs _ _ F0 ha fun ps ds W1 fs1 l1 F1 r1 q1 => ?_
  obtain ⟨F2, eP, nP, oP⟩ := F1.unhold (F.newK hP)
  unfold kDisp at q1
  split at q1
  · rename_i kk ek
    obtain ⟨kvs, e1, e2, e3⟩ := keysD_kv r1 ek
    have hnd : mergeK [] kvs = kvs := by
      have := merge_nd (more := kvs) (acc := []) (by rw [List.map_nil, List.nil_append, e2]; exact (of_decide_eq_true q1.1).1)
      exact this
    refine ⟨eP, kvs, e1, ?_, ?_⟩
    · have := (of_decide_eq_true q1.1).2
      rw [← e2, List.length_map] at this
      exact this
    · rw [hnd]
      have l2 : Le W1 ⟨upd W1.H P (.dK kvs), W1.F⟩ := Le.write eP trivial nP
      obtain ⟨ad, q⟩ := F2
      have hc0 : c.W0.H P = none := F.new0 hP
      have F3 : Fr X.K c σ ⟨upd W1.H P (.dK kvs), W1.F⟩ fs1 := ⟨ad, q.move l2 (fun i b d e => ⟨upd_ne fun z => oP i b d e (z ▸ (q.own e).1), (q.own e).2.1⟩)
        (fun b o e np => (upd_ne fun z => by subst z; rw [hc0] at e; cases e).trans (q.keep b o e np)) q.nF
        (fun b f z => by
          by_cases hb : b = P
          · subst hb; exact nP f
          · exact q.dF b f ((upd_ne hb).symm.trans z))
        (fun b o e ew => by
          have hb : b ≠ P := fun z => by subst z; rw [F.newK hP] at e; cases e
          exact ⟨(upd_ne hb).trans ew, (q.kp b o e).2.1⟩)⟩
      exact k _ (.fr (.dct kk (ds.map (·.2)))) _ fs1 (((Le.grow ex F.dF).trans l1).trans l2) F3 ⟨P, rfl, hc0, nP, ⟨kvs, upd_same, e2, e3.mono l2⟩, oP, F.newK hP⟩ q1.2
  · exact q1.elim
theorem ex_disp0 : EX X Ec (.Dict [] [] pos) (fun E fs Q => Q (.fr (.dct [] [])) fs) := EXt.x ⟨pe_dnewK, fun c σ W fs E Q Q' F A ha k => by
  intro P hP
  exact F.zx (z := .fr (.dct [] [])) (Exs.new hP) ⟨P, rfl, hP, fun f => F.dF P f hP, [], upd_same, rfl, .nil⟩ |> fun r => k _ _ ⟨_, W.F⟩ fs (Le.grow (Exs.new hP) F.dF) (F.grow (Exs.new hP)) r ha⟩
end
end G

namespace G
open PySem PySem.Spec PyProof.Rows L2

/-! what may be compared as data -/
mutual
def shK : Nat → D → Bool
  | _, .non => true | _, .bl _ => true | _, .int _ => true | _, .str z => PyData.strOk z
  | n + 1, .tup xs => shKs n xs
  | n + 1, .lst xs => shKs n xs
  | _, _ => false
def shKs : Nat → List D → Bool
  | _, [] => true
  | n, x :: xs => shK n x && shKs n xs
end
mutual
theorem shK_lay : ∀ (n : Nat) (d : D), shK n d = true → (py d).canLay0 = true ∧ (py d).depth ≤ n
  | n, .non, _ => ⟨by simp [py, PyData.canLay0], by simp [py, PyData.depth]⟩
  | n, .bl b, _ => ⟨by simp [py, PyData.canLay0], by simp [py, PyData.depth]⟩
  | n, .int b, _ => ⟨by simp [py, PyData.canLay0], by simp [py, PyData.depth]⟩
  | n, .str b, h => ⟨by simp only [py, PyData.canLay0]; simpa only [shK] using h, by simp [py, PyData.depth]⟩
  | n + 1, .tup xs, h => by
    unfold shK at h
    obtain ⟨a, b⟩ := shKs_lay n xs h
    exact ⟨by simpa only [py, PyData.canLay0] using a, by simp only [py, PyData.depth]; omega⟩
  | n + 1, .lst xs, h => by
    unfold shK at h
    obtain ⟨a, b⟩ := shKs_lay n xs h
    exact ⟨by simpa only [py, PyData.canLay0] using a, by simp only [py, PyData.depth]; omega⟩
  | 0, .tup xs, h => by simp [shK] at h
  | 0, .lst xs, h => by simp [shK] at h
  | n, .dct _ _, h => by simp [shK] at h
  | n, .obj _ _ _, h => by simp [shK] at h
  | n, .oth _, h => by simp [shK] at h
theorem shKs_lay : ∀ (n : Nat) (ds : List D), shKs n ds = true → PyData.canLayAll0 (pys ds) = true ∧ PyData.depthAll (pys ds) ≤ n
  | n, [], _ => ⟨by simp [pys, PyData.canLayAll0], by simp [pys, PyData.depthAll]⟩
  | n, x :: xs, h => by
    unfold shKs at h
    rw [Bool.and_eq_true] at h
    obtain ⟨a, b⟩ := shK_lay n x h.1
    obtain ⟨c, d⟩ := shKs_lay n xs h.2
    exact ⟨by simp only [pys, PyData.canLayAll0, a, c, Bool.and_self], by simp only [pys, PyData.depthAll]; omega⟩
end
theorem sh_of {n : Nat} {d : D} (h : shK n d = true) (l : n ≤ 64 := by decide) : SeqAt.shaped (py d) = true := by
  obtain ⟨a, b⟩ := shK_lay n d h
  unfold SeqAt.shaped
  rw [a, Bool.true_and]
  exact decide_eq_true (by omega)
theorem shKs_all {n : Nat} : ∀ {ds : List D}, (∀ d ∈ ds, shK n d = true) → shKs n ds = true
  | [], _ => by simp [shKs]
  | x :: xs, h => by simp only [shKs, h x List.mem_cons_self, shKs_all fun d m => h d (List.mem_cons_of_mem _ m), Bool.and_self]
mutual
theorem shK_mono {n m : Nat} (l : n ≤ m) : ∀ (d : D), shK n d = true → shK m d = true
  | .non, _ => by simp [shK]
  | .bl b, _ => by simp [shK]
  | .int b, _ => by simp [shK]
  | .str b, h => by simpa only [shK] using h
  | .tup xs, h => by
    cases n with
    | zero => simp [shK] at h
    | succ n => cases m with
      | zero => omega
      | succ m => unfold shK at h ⊢; exact shKs_mono (Nat.le_of_succ_le_succ l) xs h
  | .lst xs, h => by
    cases n with
    | zero => simp [shK] at h
    | succ n => cases m with
      | zero => omega
      | succ m => unfold shK at h ⊢; exact shKs_mono (Nat.le_of_succ_le_succ l) xs h
  | .dct _ _, h => by simp [shK] at h
  | .obj _ _ _, h => by simp [shK] at h
  | .oth _, h => by simp [shK] at h
theorem shKs_mono {n m : Nat} (l : n ≤ m) : ∀ (ds : List D), shKs n ds = true → shKs m ds = true
  | [], _ => by simp [shKs]
  | x :: xs, h => by
    simp only [shKs, Bool.and_eq_true] at h ⊢
    exact ⟨shK_mono l x h.1, shKs_mono l xs h.2⟩
end
theorem sh_ints (ns : List Int) : SeqAt.shaped (py (.lst (ns.map D.int))) = true := sh_of (n := 1) (by
  unfold shK
  exact shKs_all fun d m => by
    obtain ⟨i, _, rfl⟩ := List.mem_map.mp m
    simp [shK])
theorem sh_nil : SeqAt.shaped (py (.lst [])) = true := sh_of (n := 1) (by simp [shK, shKs])
theorem sh_nilT : SeqAt.shaped (py (.tup [])) = true := sh_of (n := 1) (by simp [shK, shKs])
theorem sh_str {x : Str} (h : PyData.strOk x = true) : SeqAt.shaped (py (.str x)) = true := sh_of (n := 1) (by simpa only [shK] using h)
theorem sh_int {x : Int} : SeqAt.shaped (py (.int x)) = true := sh_of (n := 1) (by simp [shK])
theorem sh_non : SeqAt.shaped (py .non) = true := sh_of (n := 1) (by simp [shK])
theorem sh_bl {x : Bool} : SeqAt.shaped (py (.bl x)) = true := sh_of (n := 1) (by simp [shK])
/-! equality by the parts -/
def eqDs : List D → List D → Bool
  | [], [] => true
  | x :: xs, y :: ys => eqD x y && eqDs xs ys
  | _, _ => false
theorem eqvAll_pys : ∀ xs ys : List D, PyData.eqvAll (pys xs) (pys ys) = eqDs xs ys
  | [], [] => by simp [pys, PyData.eqvAll, eqDs]
  | x :: xs, y :: ys => by simp only [pys, PyData.eqvAll, eqDs, eqvAll_pys xs ys]; rfl
  | [], _ :: _ => by simp [pys, PyData.eqvAll, eqDs]
  | _ :: _, [] => by simp [pys, PyData.eqvAll, eqDs]
theorem eqD_lst {xs ys : List D} : eqD (.lst xs) (.lst ys) = eqDs xs ys := by unfold eqD; simp only [py, PyData.eqv]; exact eqvAll_pys xs ys
theorem eqD_tup {xs ys : List D} : eqD (.tup xs) (.tup ys) = eqDs xs ys := by unfold eqD; simp only [py, PyData.eqv]; exact eqvAll_pys xs ys
theorem eqD_str {x y : Str} : eqD (.str x) (.str y) = decide (x = y) := by
  unfold eqD; simp only [py, PyData.eqv]
  by_cases h : x = y
  · subst h; simp
  · rw [decide_eq_false h, beq_eq_false_iff_ne]; exact h
theorem eqD_int {x y : Int} : eqD (.int x) (.int y) = decide (x = y) := by
  unfold eqD; simp only [py, PyData.eqv]
  by_cases h : x = y
  · subst h; simp
  · rw [decide_eq_false h, beq_eq_false_iff_ne]; exact h
theorem eqD_tup_str {xs : List D} {y : Str} : eqD (.tup xs) (.str y) = false := by unfold eqD; simp only [py, PyData.eqv]
theorem eqD_str_tup {xs : List D} {y : Str} : eqD (.str y) (.tup xs) = false := by unfold eqD; simp only [py, PyData.eqv]
theorem eqD_tup_int {xs : List D} {y : Int} : eqD (.tup xs) (.int y) = false := by unfold eqD; simp only [py, PyData.eqv]
theorem eqD_int_tup {xs : List D} {y : Int} : eqD (.int y) (.tup xs) = false := by unfold eqD; simp only [py, PyData.eqv]
theorem eqD_tup_non {xs : List D} : eqD (.tup xs) .non = false := by unfold eqD; simp only [py, PyData.eqv]
theorem eqD_non_tup {xs : List D} : eqD .non (.tup xs) = false := by unfold eqD; simp only [py, PyData.eqv]
theorem eqDs_nil : eqDs [] [] = true := rfl
theorem eqDs_cons {x y : D} {xs ys : List D} : eqDs (x :: xs) (y :: ys) = (eqD x y && eqDs xs ys) := rfl
theorem eqDs_nc {y : D} {ys : List D} : eqDs [] (y :: ys) = false := rfl
theorem eqDs_cn {y : D} {ys : List D} : eqDs (y :: ys) [] = false := rfl
theorem eqD_lst_nil {xs : List D} : eqD (.lst xs) (.lst []) = xs.isEmpty := by rw [eqD_lst]; cases xs <;> rfl
theorem eqD_tup_nil {xs : List D} : eqD (.tup xs) (.tup []) = xs.isEmpty := by rw [eqD_tup]; cases xs <;> rfl
theorem eqD_ints_nil {ns : List Int} : eqD (.lst (ns.map D.int)) (.lst []) = ns.isEmpty := by rw [eqD_lst_nil]; cases ns <;> rfl
/-! reckonings that the drawers share -/
theorem pow_109 : CPow 10 9 := ⟨by decide, by decide, by decide⟩
theorem pow_1018 : CPow 10 18 := ⟨by decide, by decide, by decide⟩
theorem mix_ok {v t : Int} {R : Prop} (t0 : 0 ≤ t) (t1 : t < 2 ^ 21) (r : R) :
    CMul 7919 t ∧ CMul (7919 * t) t ∧ CMul (v % 2305843009213693951 + 7919 * t * t + 11) 48271 ∧
      CMul ((v % 2305843009213693951 + 7919 * t * t + 11) * 48271 % 2305843009213693951) ((v % 2305843009213693951 + 7919 * t * t + 11) * 48271 % 2305843009213693951) ∧
        CMul ((v % 2305843009213693951 + 7919 * t * t + 11) * 48271 % 2305843009213693951 * ((v % 2305843009213693951 + 7919 * t * t + 11) * 48271 % 2305843009213693951) % 2305843009213693921) 69621 ∧ CPow 10 9 ∧ R := by
  refine ⟨.inl ⟨by decide, by decide⟩, .inl ⟨by omega, by omega⟩, .inr ⟨by decide, by decide⟩, .inl ?_, .inr ⟨by decide, by decide⟩, pow_109, r⟩
  generalize (v % 2305843009213693951 + 7919 * t * t + 11) * 48271 = z
  omega
/-- ns[i] of numbers -/
theorem at_ints {ns : List Int} {i : Int} (h0 : 0 ≤ i) (h1 : i < (ns.length : Int)) : ∃ v, atI (ns.map D.int) i = some (.int v) := by
  refine ⟨ns[i.toNat]'(by omega), atI_nn (j := i.toNat) (by omega) ?_⟩
  rw [List.getElem?_map, List.getElem?_eq_getElem (by omega)]; rfl
theorem at_some {ds : List D} {i : Int} (h0 : 0 ≤ i) (h1 : i < (ds.length : Int)) : ∃ d, atI ds i = some d ∧ d ∈ ds :=
  ⟨ds[i.toNat]'(by omega), atI_nn (j := i.toNat) (by omega) (List.getElem?_eq_getElem _), List.getElem_mem _⟩
theorem at_nat {ds : List Nat} {i : Int} (h0 : 0 ≤ i) (h1 : i < (ds.length : Int)) : ∃ d, atI ds i = some d ∧ d ∈ ds :=
  ⟨ds[i.toNat]'(by omega), atI_nn (j := i.toNat) (by omega) (List.getElem?_eq_getElem _), List.getElem_mem _⟩
theorem len_cps (z : Str) : z.cps.toList.length = z.length := by simp [Str.length]
theorem cut_top {α : Type} {xs : List α} {n : Nat} {k : Int} (e : n = xs.length) (h : (n : Int) ≤ k) : (xs.drop (HT.sIx n 0 none)).take (HT.sIx n n (some k) - HT.sIx n 0 none) = xs := by
  have e1 : HT.sIx n 0 none = 0 := rfl
  have e2 : HT.sIx n n (some k) = n := by
    show (if k < 0 then (k + (n : Int)).toNat else min k.toNat n) = n
    rw [if_neg (by omega)]
    omega
  rw [e1, e2, List.drop_zero, Nat.sub_zero, List.take_of_length_le (by omega)]
theorem aVs_nil {E : XP} {fs : Fs} {Q : List Vx → Fs → Prop} : aVs [] E fs Q = Q [] fs := rfl
theorem aVs_cons {E : XP} {fs : Fs} {Q : List Vx → Fs → Prop} {a : AX} {r : List AX} : aVs (a :: r) E fs Q = aV a E fs (kVs (aVs r) E Q) := rfl
theorem aLs_nil {E : XP} {fs : Fs} {Q : List D → Fs → Prop} : aLs [] E fs Q = Q [] fs := rfl
theorem aLs_cons {E : XP} {fs : Fs} {Q : List D → Fs → Prop} {a : AX} {r : List AX} : aLs (a :: r) E fs Q = aD a E fs (kVs (aLs r) E Q) := rfl
theorem cut_le (z : Str) (lo hi : Option Int) : (cutS z lo hi).length ≤ z.length := by
  rw [← len_cps, ← len_cps]
  simp only [cutS, List.length_take, List.length_drop]
  omega
theorem cut_hi (z : Str) (k : Nat) : (cutS z none (some (k : Int))).length ≤ k := by
  rw [← len_cps]
  simp only [cutS, List.length_take, List.length_drop, HT.sIx_nat, HT.sIx_none]
  omega
theorem app_len (a b : Str) : (a ++ b).length = a.length + b.length := by
  show (a.cps ++ b.cps).size = _
  exact Array.size_append
theorem sgl_len (c : Nat) : (⟨#[c]⟩ : Str).length = 1 := rfl
theorem ofString_nil : Str.ofString "" = ⟨#[]⟩ := by decide +kernel
theorem str_len0 {z : Str} (h : z.length = 0) : z = Str.ofString "" := by
  rw [ofString_nil]
  cases z with
  | mk cps => congr 1; exact Array.size_eq_zero_iff.mp h
/-! a statement whose end is told by an invariant, for what follows -/
def aSeqC (a b : AS) (E : XP) (A : AEnds) (fs : Fs) : Prop := aSeq a b E A fs
theorem ss_cut {X : Cx} {Ec : L2.St → XK} {st : Stmt} {rest : List Stmt} {a b : AS} (h : SX X Ec st a) (h2 : SXs X Ec rest b) : SXs X Ec (st :: rest) (aSeqC a b) := by
  have q : SXs X Ec (st :: rest) (aSeq a b) := ss_cons h h2
  exact q
theorem cut_by {a b : AS} {E : XP} {A : AEnds} {fs : Fs} (I : Fs → Prop) (h1 : ∀ R : Fs → Prop, (∀ fs', I fs' → R fs') → a E { A with nx := R } fs) (h2 : ∀ fs', I fs' → b E A fs') : aSeqC a b E A fs := h1 (b E A) h2
/-- a comprehension that leaves the frame as it is: what it makes -/
theorem compL_fm {g : AG} {t : AT} {e : AX} {vs : List Nat} {Q : List D → Fs → Prop} (f : D → Option D) {ds : List D} {fs : Fs}
    (step : ∀ (R : List D → Fs → Prop) d acc, d ∈ ds → acc.length < ds.length → R (acc ++ (f d).toList) fs → g d fs (kC1 t e vs (fun acc' fs' _ => R acc' fs') acc Q))
    (done : Q (ds.filterMap f) fs) : compL g t e vs ds [] fs Q := by
  refine compL_inv (fun i acc fs' => acc = (ds.take i).filterMap f ∧ fs' = fs) ⟨by simp, rfl⟩ ?_ ?_
  · rintro R i d acc fs' hd hR ⟨rfl, rfl⟩
    have hi : i < ds.length := (List.getElem?_eq_some_iff.mp hd).1
    have hl : ((ds.take i).filterMap f).length ≤ i := Nat.le_trans (List.length_filterMap_le f _) (by rw [List.length_take]; omega)
    refine step R d _ (List.mem_of_getElem? hd) (by omega) (hR _ _ ⟨?_, rfl⟩)
    rw [List.take_add_one, hd, List.filterMap_append]
    congr 1
  · rintro acc fs' ⟨rfl, rfl⟩
    rw [List.take_length]
    exact done
theorem bools_map {α : Type} (f : α → Bool) : ∀ xs : List α, bools (xs.map fun x => .bl (f x)) = some (xs.map f)
  | [] => rfl
  | x :: xs => by simp only [List.map_cons, bools, bools_map f xs]
theorem fm_map {α β γ : Type} {g : α → β} {f : β → Option γ} {h : α → γ} (e : ∀ x, f (g x) = some (h x)) : ∀ xs : List α, (xs.map g).filterMap f = xs.map h
  | [] => rfl
  | x :: xs => by rw [List.map_cons, List.filterMap_cons, e, fm_map e xs]; rfl
theorem fm_all {α β γ : Type} {g : α → β} {f : β → Option γ} {p : α → Bool} (e : ∀ x, (f (g x)).isNone = p x) : ∀ xs : List α, decide ((((xs.map g).filterMap f).length : Int) = 0) = xs.all p
  | [] => rfl
  | x :: xs => by
    have ih := fm_all e xs
    have ex := e x
    rw [List.map_cons, List.filterMap_cons, List.all_cons, ← ih, ← ex]
    cases f (g x) with
    | none => simp
    | some y => simp; omega
end G

namespace G
open PySem PySem.Spec PyProof.Rows L2

/-! d.get(k, x) -/
theorem lookK_val {K : PySem.W.Frag} {W : Wd} {k : Key} : ∀ {kvs : List (Key × V)} {ds : List D}, Reps K W (kvs.map (·.2)) ds →
    (∃ v d, valV kvs k = some v ∧ lookK k (kvs.map (·.1)) ds = some d ∧ Rep K W v d) ∨ (valV kvs k = none ∧ lookK k (kvs.map (·.1)) ds = none)
  | [], [], _ => .inr ⟨rfl, rfl⟩
  | p :: r, d :: ds, h => by
    cases h with
    | cons a b =>
      by_cases e : p.1 = k
      · exact .inl ⟨p.2, d, valV_pos e, by simp only [List.map_cons, lookK, if_pos e], a⟩
      · rw [valV_neg e]
        rcases lookK_val b with ⟨v, d', e1, e2, r'⟩ | ⟨e1, e2⟩
        · exact .inl ⟨v, d', e1, by simp only [List.map_cons, lookK, if_neg e]; exact e2, r'⟩
        · exact .inr ⟨e1, by simp only [List.map_cons, lookK, if_neg e]; exact e2⟩
  | [], _ :: _, h => by cases h
  | _ :: _, [], h => by cases h
def kG3 (Q : Rx → Fs → Prop) (x : Vx) (y z : D) (fs3 : Fs) : Prop := match x.at fs3, keyD y with
  | some (.dct ks ds), some k => match lookK k ks ds with
    | some d => Q (.dt d) fs3
    | none => Q (.dt z) fs3
  | _, _ => False
def kG2 (c : AX) (E : XP) (Q : Rx → Fs → Prop) (x : Vx) (y : D) (fs2 : Fs) : Prop := aD c E fs2 (fun z fs3 => kG3 Q x y z fs3)
def kG1 (b c : AX) (E : XP) (Q : Rx → Fs → Prop) (x : Vx) (fs1 : Fs) : Prop := match x.at fs1 with
  | some (.dct _ _) => aD b E fs1 (kG2 c E Q x)
  | _ => False
def aGet (a b c : AX) (E : XP) (fs : Fs) (Q : Rx → Fs → Prop) : Prop := aV a E fs (kG1 b c E Q)
section
variable {X : Cx} {Ec : L2.St → XK} {o e f : Expr} {apos cpos : Pos} {a b c : AX}
theorem ex_get (hu : X.A.units + 1 < cLine) (h1 : EX X Ec o a) (h2 : EX X Ec e b) (h3 : EX X Ec f c)
    (base : attributeBase o "get" X.env (eval o X.env) = eval o X.env := by rfl)
    (few : ((backTo cpos (starEach [e, f] X.env)).all (fun x => !x.1) && (backToKw cpos (keywordEach [] X.env)).all (fun x => x.1.isSome)
      && decide (([e, f] : List Expr).length + ([] : List Keyword).length + (if ([] : List Keyword).isEmpty then 0 else 1) < 30)) = true := by rfl)
    (line : (apos.endLine == cpos.line) = true := by rfl) (trees : backTo cpos (starEach [e, f] X.env) = [(false, eval e X.env), (false, eval f X.env)] := by rfl) :
    EX X Ec (.Call (.Attribute o "get" apos) [e, f] [] cpos) (aGet a b c) := EXt.x ⟨pe_dget2 hu h1.p h2.p h3.p ⟨base, few, line, trees⟩, fun cn σ W fs E Q Q' F A ha k => by
  refine h1.s.v cn σ W fs E _ _ F A ha fun v x W1 fs1 l1 F1 k1 q1 => ?_
  have q1' := q1
  unfold kG1 at q1'
  split at q1'
  · rename_i ks0 ds0 e1
    obtain ⟨A1, kvs1, rfl, q, _, _⟩ := (Vw.of F1 k1 e1).dct
    refine ⟨A1, rfl, .inl ⟨kvs1, .inl q⟩, ?_⟩
    refine h2.s.dd cn σ W1 fs1 E _ _ F1 A q1' fun y dy W2 fs2 l2 F2 k2 q2 => ?_
    refine h3.s.dd cn σ W2 fs2 E _ _ F2 A q2 fun z dz W3 fs3 l3 F3 k3 q3 => ?_
    unfold kG3 at q3
    split at q3
    · rename_i ks ds kk e2 e3
      obtain ⟨A2, kvs, e4, q4, n4, r4⟩ := (Vw.of F3 ((k1.mono l2).mono l3) e2).dct
      cases e4
      have ey := keyD_view (.inl (k2.mono l3)) e3
      subst ey
      subst n4
      rcases lookK_val r4 (k := kk) with ⟨v, d', e5, e6, r5⟩ | ⟨e5, e6⟩
      · rw [e6] at q3
        refine ⟨some v, e5 ▸ DGet.k q4, ?_⟩
        exact k _ (.dt d') W3 fs3 ((l1.trans l2).trans l3) F3 r5 q3
      · rw [e6] at q3
        refine ⟨none, e5 ▸ DGet.k q4, ?_⟩
        exact k _ (.dt dz) W3 fs3 ((l1.trans l2).trans l3) F3 k3 q3
    · exact q3.elim
  · exact q1'.elim⟩
end

/-! a table of the module: x[k] by its rows -/
def lookT (z : Str) : List (Str × D) → Option D
  | [] => none
  | (a, d) :: r => if a = z then some d else lookT z r
structure TabF (K : PySem.W.Frag) (w : World) (mg : Str → Option Value) (x : Str) (tab : List (Str × D)) : Prop where
  ex : ∃ p, mg x = some (.ref p) ∧ ∀ z y, lookT z tab = some y → ∃ v, KDct K w p z v ∧ ∀ W, Rep K W v y
theorem tabF_mk {K : PySem.W.Frag} {w : World} {mg : Str → Option Value} {x : Str} {tab : List (Str × D)} {p : Addr} {ks : List Str} (h : mg x = some (.ref p)) (hk : He.dicW K p = some (He.keysIn w.params ks))
    (hr : ∀ z y, lookT z tab = some y → ∃ (v : V) (u : Value), PySem.W.nsIn K p z = some (some u) ∧ RelV v u ∧ ∀ W, Rep K W v y) : TabF K w mg x tab := by
  obtain ⟨es, n, D⟩ := He.dicW_ok hk
  exact ⟨p, h, fun z y e => let ⟨v, u, a, b, c⟩ := hr z y e; ⟨v, ⟨es, n, u, D.at_, D.lit, a, b⟩, c⟩⟩
def RowsOk (K : PySem.W.Frag) (p : Addr) : List (Str × D) → Prop
  | [] => True
  | (a, d) :: r => (∃ (v : V) (u : Value), PySem.W.nsIn K p a = some (some u) ∧ RelV v u ∧ ∀ W, Rep K W v d) ∧ RowsOk K p r
theorem lookT_rows {K : PySem.W.Frag} {p : Addr} : ∀ {tab : List (Str × D)}, RowsOk K p tab → ∀ z y, lookT z tab = some y → ∃ (v : V) (u : Value), PySem.W.nsIn K p z = some (some u) ∧ RelV v u ∧ ∀ W, Rep K W v y
  | [], _, z, y, e => by cases e
  | (a, d) :: r, h, z, y, e => by
    unfold lookT at e
    split at e
    · rename_i q
      cases e
      subst q
      exact h.1
    · exact lookT_rows h.2 z y e
def kTab (tab : List (Str × D)) (Q : Rx → Fs → Prop) (d : D) (fs1 : Fs) : Prop := match d with
  | .str z => match lookT z tab with
    | some y => Q (.dt y) fs1
    | none => False
  | _ => False
def aTab (tab : List (Str × D)) (a : AX) (E : XP) (fs : Fs) (Q : Rx → Fs → Prop) : Prop := aD a E fs (kTab tab Q)
section
variable {X : Cx} {Ec : L2.St → XK} {e : Expr} {x : Str} {a : AX} {pos p2 : Pos} {tab : List (Str × D)}
theorem ex_tab (h : TabF X.K X.w X.mg x tab) (h2 : EX X Ec e a) (hg : Gl X x := by rfl) (hdb : (x == ("__debug__" : Str)) = false := by decide) (hx : PlainIx e := by intro _ _; rfl) :
    EX X Ec (.Subscript (.Name x p2) e pos) (aTab tab a) := by
  obtain ⟨p, h1, hr⟩ := h.ex
  have hn : EX X Ec (.Name x p2) (aC (.oth (.ref p))) := ex_glob (v := .ref p) h1 rfl (fun W => .oth _) hg hdb
  refine EXt.x ⟨pe_ix ix_kdict hn.p h2.p hx, fun cn σ W fs E Q Q' F A ha k => ?_⟩
  refine hn.s cn σ W fs E _ (fun r fs' => r = .dt (.oth (.ref p)) ∧ aTab tab a E fs' Q') F A ⟨rfl, ha⟩ fun v r W1 fs1 l1 F1 k1 ⟨er, q1⟩ => ?_
  subst er
  have ev : v = .ref p := by cases k1; rfl
  subst ev
  refine h2.s.dd cn σ W1 fs1 E _ _ F1 A q1 fun u d W2 fs2 l2 F2 k2 q2 => ?_
  unfold kTab at q2
  split at q2
  · rename_i z
    cases k2
    split at q2
    · rename_i y ey
      obtain ⟨v, kd, rp⟩ := hr z y ey
      exact ⟨p, z, v, rfl, rfl, kd, k v (.dt y) W2 fs2 (l1.trans l2) F2 (rp W2) q2⟩
    · exact q2.elim
  · exact q2.elim
end
end G

namespace G
open PySem PySem.Spec PyProof.Rows L2

/-! a call whose last argument is a fresh thing that the def may write -/
section
variable {K : PySem.W.Frag} {c : Cn} {σ : L2.St} {W : Wd} {fs : Fs}
theorem call_core {sp : ASp} {vs : List V} {rs : List Vx} {E : XP} {Q' : Rx → Fs → Prop} {Q : VK} {EE : XK} (F1 : Fr K c σ W fs) (k1 : VsOk K W σ vs rs) (q1 : kCall sp E Q' rs fs)
    (hq : ∀ v r W' fs', (∀ i, r ≠ .sl i) → Le W W' → Fr K c σ W' fs' → RxOk K c W' σ fs' v r → Q' r fs' → Q v W'.H)
    (he : ∀ cls od xf W' fs', Fr K c σ W' fs' → XFld K W' od xf → E cls xf fs' → EE cls od W'.H) : spOf K sp vs W.H Q EE := by
  have q1' : (match apart (loans fs rs), argsOf fs rs with
    | true, some args => sp args (fun r args' => match resRx r with
        | some x => Q' x (backs rs args' fs)
        | none => False) (fun cls xf args' => E cls xf (backs rs args' fs))
    | _, _ => False) := q1
  split at q1'
  · rename_i args ap ea
    obtain ⟨ad, q⟩ := id F1
    obtain ⟨al, ag⟩ := argsOf_get ea
    obtain ⟨vl, v1, v2⟩ := vsok_get k1
    refine ⟨W.F, args, fun j => match rs[j]? with | some (.sl i) => ad i | _ => 0, _, _, ⟨by rw [vl, al], fun i v s ev es => ?_, fun i j d e e1 e2 ee => ?_, F1.dF⟩, q1', fun v r args' W' af ro qq => ?_, fun cls od xf args' W' af xk qq => ?_⟩
    · rcases ag i s es with ⟨d, z1, rfl⟩ | ⟨k, d, z1, z2, rfl⟩ | ⟨k, p, d, z1, z2, rfl⟩
      · exact v1 i v d ev z1
      · obtain ⟨w, e1, r⟩ := q.dat z2
        rw [v2 i k v ev z1] at e1
        cases e1
        exact r
      · obtain ⟨e1, nf, ct⟩ := q.own z2
        rw [v2 i k v ev z1] at e1
        cases e1
        show V.ref (ad k) = .ref (match rs[i]? with | some (.sl i) => ad i | _ => 0) ∧ ¬ W.F (match rs[i]? with | some (.sl i) => ad i | _ => 0) ∧ Cont K _ (match rs[i]? with | some (.sl i) => ad i | _ => 0) d
        rw [z1]
        exact ⟨rfl, nf, ct⟩
    · have f1 := ag i _ e1
      have f2 := ag j _ e2
      rcases f1 with ⟨_, _, z⟩ | ⟨_, _, _, _, z⟩ | ⟨k, p, x, z1, z2, z3⟩
      · cases z
      · cases z
      · rcases f2 with ⟨_, _, z⟩ | ⟨_, _, _, _, z⟩ | ⟨k', p', x', y1, y2, y3⟩
        · cases z
        · cases z
        · have ee' : (match rs[i]? with | some (.sl i) => ad i | _ => 0) = (match rs[j]? with | some (.sl i) => ad i | _ => 0) := ee
          rw [z1, y1] at ee'
          have := q.sep k k' _ _ _ _ z2 y2 ee'
          subst this
          exact loans_inj z2 ap z1 y1
    · have F2 : Fr K c σ W' (backs rs args' fs) := ⟨ad, fr_after (vs := vs) q ap ea af⟩
      have qq' : (match resRx r with
        | some x => Q' x (backs rs args' fs)
        | none => False) := qq
      cases r with
      | un => exact ro.elim
      | tp _ _ => exact qq'.elim
      | dat d => exact hq v (.dt d) W' _ (fun i z => by cases z) af.le F2 ro qq'
      | own p d =>
        cases p with
        | true => exact ro.elim
        | false =>
          obtain ⟨p, rfl, n, nf, ct⟩ := ro
          refine hq _ (.fr d) W' _ (fun i z => by cases z) af.le F2 ⟨p, rfl, F1.new0 n, nf, ct, fun i b x ei z => ?_, F1.newK n⟩ qq'
          rcases backs_get rs args' fs i _ ei with ⟨y1, _⟩ | ⟨j, b', y, d', _, y2, _, y4⟩
          · exact F1.newS n y1 z
          · exact F1.newS n y2 z
    · exact he cls od xf W' _ ⟨ad, fr_after (vs := vs) q ap ea af⟩ xk qq
  · exact q1'.elim
theorem Fr.ext {v : V} {d : D} (h : Fr K c σ W fs) (r : RxOk K c W σ fs v (.fr d)) : Fr K c (σ ++ [some v]) W (fs ++ [.own false d]) := by
  obtain ⟨p, rfl, h0, nf, ct, no, hk⟩ := r
  obtain ⟨ad, q⟩ := h
  have hl := q.len
  let ad' : Nat → Addr := fun i => if i = fs.length then p else ad i
  have lt : ∀ {i : Nat} {s : Sl}, i ≠ fs.length → (fs ++ [Sl.own false d])[i]? = some s → fs[i]? = some s ∧ ad' i = ad i := by
    intro i s hi e
    have hlt : i < fs.length := by
      have := (List.getElem?_eq_some_iff.mp e).1
      rw [List.length_append, List.length_cons, List.length_nil] at this
      omega
    rw [List.getElem?_append_left hlt] at e
    exact ⟨e, if_neg hi⟩
  have top : ∀ {s : Sl}, (fs ++ [Sl.own false d])[fs.length]? = some s → s = .own false d := by
    intro s e
    rw [List.getElem?_append_right (Nat.le_refl _), Nat.sub_self] at e
    exact (Option.some.inj e).symm
  have topa : ad' fs.length = p := if_pos rfl
  have sig : ∀ {i : Nat}, i < fs.length → (σ ++ [some (V.ref p)])[i]? = σ[i]? := fun hi => List.getElem?_append_left (by omega)
  have own : ∀ {i : Nat} {b : Bool} {x : D}, fs[i]? = some (.own b x) → ad i ≠ p := fun e z => no _ _ _ e (z ▸ (q.own e).1)
  refine ⟨ad', by rw [List.length_append, List.length_append, hl]; rfl, q.le, fun i s e => ?_, fun i j a b x y e1 e2 ea => ?_, q.keep, q.kF, q.nF, q.dF, fun i x e => ?_, fun i x e => ?_, fun i a e => ?_, fun b o e => ?_⟩
  · by_cases hi : i = fs.length
    · subst hi
      rw [top e, topa]
      refine ⟨?_, nf, ct⟩
      rw [List.getElem?_append_right (by omega), hl, Nat.sub_self]; rfl
    · obtain ⟨e1, e2⟩ := lt hi e
      rw [e2, sig (List.getElem?_eq_some_iff.mp e1).1]
      exact q.slot i s e1
  · by_cases hi : i = fs.length
    · by_cases hj : j = fs.length
      · rw [hi, hj]
      · obtain ⟨e3, e4⟩ := lt hj e2
        subst hi
        rw [topa, e4] at ea
        exact absurd ea.symm (own e3)
    · obtain ⟨e3, e4⟩ := lt hi e1
      by_cases hj : j = fs.length
      · subst hj
        rw [topa, e4] at ea
        exact absurd ea (own e3)
      · obtain ⟨e5, e6⟩ := lt hj e2
        rw [e4, e6] at ea
        exact q.sep i j a b x y e3 e5 ea
  · by_cases hi : i = fs.length
    · subst hi; rw [topa]; exact h0
    · obtain ⟨e1, e2⟩ := lt hi e
      rw [e2]; exact q.loc i x e1
  · by_cases hi : i = fs.length
    · subst hi; cases top e
    · obtain ⟨e1, e2⟩ := lt hi e
      rw [e2]; exact q.brw i x e1
  · obtain ⟨a1, a2, x, e1⟩ := q.pin i a e
    exact ⟨a1, a2, x, by rw [List.getElem?_append_left (List.getElem?_eq_some_iff.mp e1).1]; exact e1⟩
  · obtain ⟨a1, a2, a3⟩ := q.kp b o e
    refine ⟨a1, a2, fun i x y ei => ?_⟩
    by_cases hi : i = fs.length
    · subst hi
      rw [topa]
      intro z
      subst z
      rw [hk] at e
      cases e
    · obtain ⟨e1, e2⟩ := lt hi ei
      rw [e2]; exact a3 i x y e1
theorem Fr.unext {o : Option V} {gs : Fs} (h : Fr K c (σ ++ [o]) W gs) (np : ∀ d, gs[σ.length]? ≠ some (.own true d)) : Fr K c σ W (gs.take σ.length) := by
  obtain ⟨ad, q⟩ := h
  have hl := q.len
  rw [List.length_append, List.length_cons, List.length_nil] at hl
  have lt : ∀ {i : Nat} {s : Sl}, (gs.take σ.length)[i]? = some s → gs[i]? = some s ∧ i < σ.length := by
    intro i s e
    have hi := (List.getElem?_eq_some_iff.mp e).1
    rw [List.length_take] at hi
    rw [List.getElem?_take_of_lt (by omega)] at e
    exact ⟨e, by omega⟩
  refine ⟨ad, by rw [List.length_take]; omega, q.le, fun i s e => ?_, fun i j a b x y e1 e2 ea => q.sep i j a b x y (lt e1).1 (lt e2).1 ea, q.keep, q.kF, q.nF, q.dF, fun i x e => q.loc i x (lt e).1, fun i x e => q.brw i x (lt e).1, fun i a e => ?_,
    fun b o e => let ⟨a1, a2, a3⟩ := q.kp b o e; ⟨a1, a2, fun i x y ei => a3 i x y (lt ei).1⟩⟩
  · obtain ⟨e1, hi⟩ := lt e
    have := q.slot i s e1
    rw [List.getElem?_append_left hi] at this
    exact this
  · obtain ⟨a1, a2, x, e1⟩ := q.pin i a e
    refine ⟨a1, a2, x, ?_⟩
    have hi := (List.getElem?_eq_some_iff.mp e1).1
    have hne : i ≠ σ.length := fun z => np x (z ▸ e1)
    rw [List.getElem?_take_of_lt (by omega)]
    exact e1
end
abbrev AVT := XP → Fs → (List Vx → Option D → Fs → Prop) → Prop
def VtOk (K : PySem.W.Frag) (c : Cn) (W : Wd) (σ : L2.St) (fs : Fs) (vs : List V) (rs : List Vx) : Option D → Prop
  | none => VsOk K W σ vs rs
  | some d => ∃ us v, vs = us ++ [v] ∧ VsOk K W σ us rs ∧ RxOk K c W σ fs v (.fr d)
def SndVT (K : PySem.W.Frag) (Ec : L2.St → XK) (t : TA) (a : AVT) : Prop :=
  ∀ (c : Cn) (σ : L2.St) (W : Wd) (fs : Fs) (E : XP) (Q : List V → Hp → Prop) (Q' : List Vx → Option D → Fs → Prop), Fr K c σ W fs → AdX K c Ec E → a E fs Q' →
    (∀ vs rs o W' fs', Le W W' → Fr K c σ W' fs' → VtOk K c W' σ fs' vs rs o → Q' rs o fs' → Q vs W'.H) → t σ W.H Q
structure EVT (X : Cx) (Ec : L2.St → XK) (es : List Expr) (a : AVT) : Prop where
  ex : ∃ t, PA X es t ∧ SndVT X.K Ec t a
def kT1 (Q : List Vx → Option D → Fs → Prop) (r : Rx) (fs1 : Fs) : Prop := match r with
  | .fr d => Q [] (some d) fs1
  | .dt d => Q [.dt d] none fs1
  | .sl i => Q [.sl i] none fs1
def aT1 (b : AX) (E : XP) (fs : Fs) (Q : List Vx → Option D → Fs → Prop) : Prop := b E fs (kT1 Q)
def kTc2 (Q : List Vx → Option D → Fs → Prop) (v : Vx) (rs : List Vx) (o : Option D) (fs2 : Fs) : Prop := Q (v :: rs) o fs2
def kTc (r : AVT) (E : XP) (Q : List Vx → Option D → Fs → Prop) (v : Vx) (fs1 : Fs) : Prop := r E fs1 (kTc2 Q v)
def aTc (a : AX) (r : AVT) (E : XP) (fs : Fs) (Q : List Vx → Option D → Fs → Prop) : Prop := aV a E fs (kTc r E Q)
section
variable {X : Cx} {Ec : L2.St → XK} {e : Expr} {es : List Expr} {a : AX} {r : AVT}
theorem evt_one (h : EX X Ec e a) (hs : starEach [e] X.env = (false, eval e X.env) :: starEach [] X.env := by rfl) : EVT X Ec [e] (aT1 a) :=
  ⟨_, pa_cons h.p pa_nil hs, fun c σ W fs E Q Q' F A ha k => by
    refine h.s c σ W fs E _ _ F A ha fun v x W1 fs1 l1 F1 r1 q1 => ?_
    cases x with
    | dt d => exact k [v] [.dt d] none W1 fs1 l1 F1 ⟨r1, trivial⟩ q1
    | sl i => exact k [v] [.sl i] none W1 fs1 l1 F1 ⟨r1, trivial⟩ q1
    | fr d => exact k [v] [] (some d) W1 fs1 l1 F1 ⟨[], v, rfl, trivial, r1⟩ q1⟩
theorem evt_cons (h : EX X Ec e a) (h2 : EVT X Ec es r) (hs : starEach (e :: es) X.env = (false, eval e X.env) :: starEach es X.env := by rfl) : EVT X Ec (e :: es) (aTc a r) := by
  obtain ⟨t, p, s⟩ := h2.ex
  exact ⟨_, pa_cons h.p p hs, fun c σ W fs E Q Q' F A ha k => by
    refine h.s.v c σ W fs E _ _ F A ha fun v x W1 fs1 l1 F1 r1 q1 => ?_
    refine s c σ W1 fs1 E _ _ F1 A q1 fun vs rs o W2 fs2 l2 F2 r2 q2 => ?_
    refine k (v :: vs) (x :: rs) o W2 fs2 (l1.trans l2) F2 ?_ q2
    cases o with
    | none => exact VsOk.cons (r1.mono l2) r2
    | some d =>
      obtain ⟨us, w, rfl, h1, h2⟩ := r2
      exact ⟨v :: us, w, rfl, VsOk.cons (r1.mono l2) h1, h2⟩⟩
end
def kT3 (n : Nat) (Q : Rx → Fs → Prop) (r : Rx) (gs : Fs) : Prop := np (gs.getD n .un) ∧ Q r (gs.take n)
def kT4 (n : Nat) (E : XP) (cls : Value) (xf : XF) (gs : Fs) : Prop := np (gs.getD n .un) ∧ E cls xf (gs.take n)
def kT2 (sp : ASp) (E : XP) (Q : Rx → Fs → Prop) (rs : List Vx) (o : Option D) (fs1 : Fs) : Prop := match o with
  | none => kCall sp E Q rs fs1
  | some d => kCall sp (kT4 fs1.length E) (kT3 fs1.length Q) (rs ++ [.sl fs1.length]) (fs1 ++ [.own false d])
def aCallT (sp : ASp) (a : AVT) (E : XP) (fs : Fs) (Q : Rx → Fs → Prop) : Prop := a E fs (kT2 sp E Q)
theorem np_of {gs : Fs} {n : Nat} (h : np (gs.getD n .un)) : ∀ d, gs[n]? ≠ some (.own true d) := fun d e => by
  rw [List.getD_eq_getElem?_getD, e] at h
  exact absurd (show true = false from h) (by decide)
theorem VsOk.ext {K : PySem.W.Frag} {W : Wd} {σ : L2.St} {v : V} : ∀ {vs : List V} {rs : List Vx}, VsOk K W σ vs rs → VsOk K W (σ ++ [some v]) (vs ++ [v]) (rs ++ [.sl σ.length])
  | [], [], _ => ⟨by rw [List.getElem?_append_right (Nat.le_refl _), Nat.sub_self]; rfl, trivial⟩
  | u :: vs, .dt x :: rs, h => ⟨h.1, VsOk.ext h.2⟩
  | u :: vs, .sl i :: rs, h => ⟨by rw [List.getElem?_append_left (List.getElem?_eq_some_iff.mp h.1).1]; exact h.1, VsOk.ext h.2⟩
  | [], _ :: _, h => h.elim
  | _ :: _, [], h => h.elim
section
variable {X : Cx} {Ec : L2.St → XK} {CX : CXT} {k : Nat} {x : Str} {sp : ASp} {e : Expr} {es : List Expr} {a : AVT} {p pos : Pos}
theorem ex_callT (hf : FnC X.prog X.w X.K X.mg X.base CX k x sp) (hr : Room k X.A) (hx : ∀ σ, PassesAt CX X σ (Ec σ)) (ha : EVT X Ec (e :: es) a) (hg : Gl X x := by rfl) (hdb : (x == ("__debug__" : Str)) = false := by decide)
    (he : starEach (e :: es) X.env = (false, eval e X.env) :: starEach es X.env := by rfl) (hpl : (backTo pos (starEach es X.env)).any (·.1) = false := by rfl) : EX X Ec (.Call (.Name x p) (e :: es) [] pos) (aCallT sp a) := by
  obtain ⟨f, fd, ps, h1, h2, h3, h4⟩ := hf.ex
  obtain ⟨t, pt, st⟩ := ha.ex
  refine EXt.x ⟨pe_callS h1 hr hg h2 h3 h4 hx pt hdb he hpl, fun c σ W fs E Q Q' F A ha k => ?_⟩
  refine st c σ W fs E _ _ F A ha fun vs rs o W1 fs1 l1 F1 r1 q1 => ?_
  cases o with
  | none => exact call_core F1 r1 q1 (fun v r W' fs' _ l F' ro q => k v r W' fs' (l1.trans l) F' ro q) fun cls od xf W' fs' F' xk q => A σ W' fs' cls od xf F' xk q
  | some d =>
    obtain ⟨us, v, rfl, h1, h2⟩ := r1
    have hl := F1.len
    have q1' : kCall sp (kT4 σ.length E) (kT3 σ.length Q') (rs ++ [.sl σ.length]) (fs1 ++ [.own false d]) := by rw [hl]; exact q1
    refine call_core (F1.ext h2) h1.ext q1' (fun v r W' fs' hn l F' ro q => ?_) fun cls od xf W' fs' F' xk q => ?_
    · refine k v r W' _ (l1.trans l) (F'.unext (np_of q.1)) ?_ q.2
      cases r with
      | dt d => exact ro
      | sl i => exact absurd rfl (hn i)
      | fr d =>
        obtain ⟨p, e1, e2, e3, e4, e5, e6⟩ := ro
        refine ⟨p, e1, e2, e3, e4, fun i b y ei z => ?_, e6⟩
        have hi := (List.getElem?_eq_some_iff.mp ei).1
        rw [List.length_take] at hi
        rw [List.getElem?_take_of_lt (by omega)] at ei
        exact e5 i b y ei (by rw [List.getElem?_append_left (by omega)]; exact z)
    · exact A σ W' _ cls od xf (F'.unext (np_of q.1)) xk q.2
end
end G

namespace G
open PySem PySem.Spec PyProof.Rows L2

/-! what a zip or an enumerate walks over: a list, a tuple, a text -/
inductive Side where
  | l (a : Addr) | t (a : Addr) | s (x : Str)
def Side.v : Side → V
  | .l a => .ref a
  | .t a => .ref a
  | .s x => .str x
def Side.st (it : Addr) (i : Nat) (h : Heap) : Side → Prop
  | .l a => h.IsListIter it a i
  | .t a => h.IsTupleIter it a i
  | .s x => ∃ tk, h.IsStrIter it (strIterType x) x tk i
def Side.own : Side → List Addr
  | .l a => [a]
  | .t a => [a]
  | .s _ => []
def Side.has (K : PySem.W.Frag) (H : Hp) (n : Nat) : Side → Prop
  | .l a => ∃ xs, SqL K H a xs ∧ xs.length = n
  | .t a => ∃ xs, SqT K H a xs ∧ xs.length = n
  | .s x => x.cps.size = n
def Side.val (K : PySem.W.Frag) (i : Nat) (H : Hp) (v : V) : Side → Prop
  | .l a => ∀ xs, SqL K H a xs → xs[i]? = some v
  | .t a => ∀ xs, SqT K H a xs → xs[i]? = some v
  | .s x => ∃ c, x.cps[i]? = some c ∧ v = .str ⟨#[c]⟩
theorem Side.st_obj {it : Addr} {i : Nat} {h : Heap} : ∀ {S : Side}, S.st it i h → ∃ o, h.get? it = some o ∧ ∀ v, o.data ≠ .cell v
  | .l a, ⟨o, e, _, d⟩ => ⟨o, e, fun v q => by rw [d] at q; cases q⟩
  | .t a, ⟨o, e, _, d⟩ => ⟨o, e, fun v q => by rw [d] at q; cases q⟩
  | .s x, ⟨_, o, e, _, d⟩ => ⟨o, e, fun v q => by rw [d] at q; cases q⟩
theorem Side.st_keep {it : Addr} {i : Nat} {h h' : Heap} (k : ∀ o, h.get? it = some o → h'.get? it = some o) : ∀ {S : Side}, S.st it i h → S.st it i h'
  | .l a, ⟨o, e, c, d⟩ => ⟨o, k o e, c, d⟩
  | .t a, ⟨o, e, c, d⟩ => ⟨o, k o e, c, d⟩
  | .s x, ⟨tk, o, e, c, d⟩ => ⟨tk, o, k o e, c, d⟩
theorem vals_back : ∀ {xs : List V} {us : List Value} {i : Nat} {u : Value}, Vals xs us → us[i]? = some u → ∃ x, xs[i]? = some x ∧ RelV x u
  | _, _, 0, u, .cons r t, e => ⟨_, rfl, by cases e; exact r⟩
  | _, _, i + 1, u, .cons r t, e => by
    obtain ⟨x, e1, r'⟩ := vals_back t (by simpa using e)
    exact ⟨x, by simpa using e1, r'⟩
  | _, _, i, u, .nil, e => by simp at e
theorem Side.draws {X : Cx} {pins : List (Addr × Obj)} {σ : L2.St} {H : Hp} {s : Shared} {A : Around} {it : Addr} {i n : Nat} (hh : A.handled = none) (I : Inv X pins σ H s) : ∀ {S : Side}, S.st it i s.heap → S.has X.K H n → it ∉ S.own →
    ∃ (P : Nat → Value → Prop) (St : Nat → Heap → Prop), Draws X.prog X.w A it (it :: S.own) n P St ∧ St i s.heap ∧ (∀ j h, St j h → S.st it j h) ∧ ∀ v, P i v → ∃ x, RelV x v ∧ S.val X.K i H x
  | .l a, st, ⟨xs, hq, hn⟩, ho => by
    obtain ⟨its, rv, p, hz⟩ := I.list hq
    have hne : a ≠ it := fun z => ho (by rw [z]; exact List.mem_cons_self)
    have hl : its.toArray.size = n := by have := rv.length; rw [← hn, this]; simp
    refine ⟨_, _, hl ▸ Draws.list hh it a hne its.toArray, ⟨st, p.isList⟩, fun j h q => q.1, fun v q => ?_⟩
    obtain ⟨x, e1, r⟩ := vals_back rv (by simpa using q)
    exact ⟨x, r, fun ys hy => by rw [I.list_inj hy hq]; exact e1⟩
  | .t a, st, ⟨xs, hq, hn⟩, ho => by
    obtain ⟨its, rv, p, hz⟩ := I.tuple hq
    have hne : a ≠ it := fun z => ho (by rw [z]; exact List.mem_cons_self)
    have hl : its.toArray.size = n := by have := rv.length; rw [← hn, this]; simp
    refine ⟨_, _, hl ▸ Draws.tuple hh it a hne its.toArray, ⟨st, p⟩, fun j h q => q.1, fun v q => ?_⟩
    obtain ⟨x, e1, r⟩ := vals_back rv (by simpa using q)
    exact ⟨x, r, fun ys hy => by rw [I.tuple_inj hy hq]; exact e1⟩
  | .s x, ⟨tk, st⟩, hn, ho => by
    have hn' : x.cps.size = n := hn
    refine ⟨_, _, hn' ▸ Draws.text hh it x tk, st, fun j h q => ⟨tk, q⟩, fun v ⟨c, u, e, q⟩ => ⟨.str ⟨#[c]⟩, ⟨u, q⟩, c, e, rfl⟩⟩
/-- both walked side by side, the items in new pairs -/
def ItzM (K : PySem.W.Frag) (S1 S2 : Side) : It :=
  ⟨fun i H => ∃ n1 n2, S1.has K H n1 ∧ S2.has K H n2 ∧ i < n1 ∧ i < n2,
    fun i H v H' => ∃ T x y, v = .ref T ∧ H T = none ∧ H' = upd H T (.tup [x, y]) ∧ S1.val K i H x ∧ S2.val K i H y,
    fun i H => ∃ n1 n2, S1.has K H n1 ∧ S2.has K H n2 ∧ i ≤ n1 ∧ i ≤ n2 ∧ (i = n1 ∨ i = n2)⟩
theorem turn_zipM {P : Program} {w : World} {K : PySem.W.Frag} {elts : List Expr} {kk : Nat} {tpos : Pos} {S1 S2 : Side} {z TI TO i1 i2 : Addr} (D : ZipSep2 z TI TO i1 i2 (i1 :: S1.own) (i2 :: S2.own))
    (ho1 : i1 ∉ S1.own) (ho2 : i2 ∉ S2.own) (hzi : z ≠ i1 ∧ z ≠ i2) :
    Turn P w K (.Tuple elts kk tpos) (ItzM K S1 S2) [z, TI, TO, i1, i2] z (fun i h => IsZip h z TI TO .none ∧ IsTupOf2 h TI (.ref i1) (.ref i2) ∧ (∃ x y, IsTupOf2 h TO x y) ∧ S1.st i1 i h ∧ S2.st i2 i h) where
  mem := List.mem_cons_self
  obj := fun i h st c hc => by
    obtain ⟨hz, hTI, ⟨x, y, hTO⟩, h1, h2⟩ := st
    simp only [List.mem_cons, List.not_mem_nil, or_false] at hc
    rcases hc with rfl | rfl | rfl | rfl | rfl
    · exact ⟨_, hz, fun v q => nomatch q⟩
    · exact ⟨_, hTI, fun v q => nomatch q⟩
    · exact ⟨_, hTO, fun v q => nomatch q⟩
    · exact Side.st_obj (S := S1) h1
    · exact Side.st_obj (S := S2) h2
  keep := fun i h h' st k => by
    obtain ⟨hz, hTI, ⟨x, y, hTO⟩, h1, h2⟩ := st
    exact ⟨k z (by simp) _ hz, k TI (by simp) _ hTI, ⟨x, y, k TO (by simp) _ hTO⟩, Side.st_keep (S := S1) (fun o q => k i1 (by simp) o q) h1, Side.st_keep (S := S2) (fun o q => k i2 (by simp) o q) h2⟩
  item := by
    intro X hP hw hK hc i pins s σ H E I hf st ⟨n1, n2, hs1, hs2, l1, l2⟩
    subst hP hw hK
    obtain ⟨hz, hTI, ⟨x0, y0, hTO⟩, h1, h2⟩ := st
    have hh : X.A.in1.handled = none := I.ok.hd hc
    obtain ⟨P1, St1, D1, t1, b1, v1⟩ := Side.draws (A := X.A.in1) hh I h1 hs1 ho1
    obtain ⟨P2, St2, D2, t2, b2, v2⟩ := Side.draws (A := X.A.in1) hh I h2 hs2 ho2
    have hzl : z < s.heap.objs.size := Heap.lt_size hz
    refine wpAny_pyNext_zipD2_item D D1 D2 hz hTI hTO t1 t2 l1 l2 fun u u2 h' tk p1 p2 z' TO' s1 s2 hT hsz hk => ?_
    refine ⟨_, rfl, wpAny_letOwnedTupleGo_zip (s := { s with heap := h', toks := tk }) z' fun h'' z'' sb => ?_⟩
    obtain ⟨x, ru, w1⟩ := v1 u p1
    obtain ⟨y, ru2, w2⟩ := v2 u2 p2
    have hT2 : h''.get? s.heap.objs.size = some { cls := .type "tuple", data := .seq #[u, u2] } := (sb.2 _ (Nat.ne_of_gt hzl)).trans hT
    have new : ObjOk X.prog X.w (upd H s.heap.objs.size (.tup [x, y])) h'' s.heap.objs.size (.tup [x, y]) :=
      ⟨by show 2 ≤ sizeLine; decide, [u, u2], .cons ru (.cons ru2 .nil), ⟨_, hT2, rfl, _, rfl⟩⟩
    have I1 : Inv X pins σ (upd H s.heap.objs.size (.tup [x, y])) { s with heap := h'', toks := tk } :=
      I.turnedNew (t' := tk) (ch := [z, TI, TO, i1, i2]) (fun c o hb q => (sb.2 c (fun q' => hb (by simp [q']))).trans (hk c o (fun q' => hb (by simp [q'])) (fun q' => hb (by simp [q'])) (fun q' => hb (by simp [q'])) (fun q' => hb (by simp [q'])) q)) hf (Nat.le_refl _) new
    refine ⟨.ref s.heap.objs.size, _, I1, rfl, ⟨_, x, y, rfl, I.hok.fresh (Nat.le_refl _), rfl, w1, w2⟩, ⟨z'', ?_, ⟨u, u2, ?_⟩, ?_, ?_⟩, fun c hcm => ?_⟩
    · exact (sb.2 _ D.TIz).trans (hk _ _ D.TIz D.TITO D.TIi1 D.TIi2 hTI)
    · exact (sb.2 _ D.TOz).trans TO'
    · exact Side.st_keep (S := S1) (fun o q => (sb.2 _ hzi.1.symm).trans q) (b1 _ _ s1)
    · exact Side.st_keep (S := S2) (fun o q => (sb.2 _ hzi.2.symm).trans q) (b2 _ _ s2)
    · have hlt : c < s.heap.objs.size := by
        simp only [List.mem_cons, List.not_mem_nil, or_false] at hcm
        rcases hcm with rfl | rfl | rfl | rfl | rfl
        · exact hzl
        · exact Heap.lt_size hTI
        · exact Heap.lt_size hTO
        · obtain ⟨o, e1, _⟩ := Side.st_obj (S := S1) h1; exact Heap.lt_size e1
        · obtain ⟨o, e1, _⟩ := Side.st_obj (S := S2) h2; exact Heap.lt_size e1
      rw [upd_ne (Nat.ne_of_lt hlt)]
      exact (hf c hcm).1
  done := by
    intro X hP hw hK hc i pins s σ H E I hf st ⟨n1, n2, hs1, hs2, l1, l2, hend⟩
    subst hP hw hK
    obtain ⟨hz, hTI, ⟨x0, y0, hTO⟩, h1, h2⟩ := st
    have hh : X.A.in1.handled = none := I.ok.hd hc
    obtain ⟨P1, St1, D1, t1, b1, v1⟩ := Side.draws (A := X.A.in1) hh I h1 hs1 ho1
    obtain ⟨P2, St2, D2, t2, b2, v2⟩ := Side.draws (A := X.A.in1) hh I h2 hs2 ho2
    exact wpAny_pyNext_zipD2_end D D1 D2 hz hTI hTO t1 t2 l1 l2 hend fun h' tk hk => ⟨rfl, I.turnedL (t' := tk) (ch := [z, TI, TO, i1, i2]) (fun c o hb q =>
      hk c o (fun q' => hb (by simp [q'])) (fun q' => hb (by simp [q'])) (fun q' => hb (by simp [q'])) (fun q' => hb (by simp [q'])) q) hf⟩
  self := fun A i s Q E st h => wpAny_pyIter_zip st.1 h
theorem Side.begins {X : Cx} {pins : List (Addr × Obj)} {σ : L2.St} {H : Hp} {s : Shared} {n : Nat} {u : Value} (I : Inv X pins σ H s) : ∀ {S : Side}, S.has X.K H n → RelV S.v u →
    ∃ (o : Obj) (Hd : Heap → Prop), Begins u o Hd ∧ Hd s.heap ∧ (∀ (h' : Heap) (it : Addr), h'.get? it = some o → S.st it 0 h') ∧ ∀ b ∈ S.own, b < s.heap.objs.size
  | .l a, ⟨xs, hq, hn⟩, r => by
    obtain ⟨its, rv, p, hz⟩ := I.list hq
    obtain rfl : u = Value.ref a := r
    exact ⟨_, _, begins_list a its.toArray, p.isList, fun h' it e => ⟨_, e, rfl, rfl⟩, fun b hb => by rw [List.mem_singleton.mp hb]; exact p.lt⟩
  | .t a, ⟨xs, hq, hn⟩, r => by
    obtain ⟨its, rv, p, hz⟩ := I.tuple hq
    obtain rfl : u = Value.ref a := r
    obtain ⟨o1, ho1, _⟩ := id p
    exact ⟨_, _, begins_tuple a its.toArray, p, fun h' it e => ⟨_, e, rfl, rfl⟩, fun b hb => by rw [List.mem_singleton.mp hb]; exact Heap.lt_size ho1⟩
  | .s x, hn, r => by
    obtain ⟨tk, rfl⟩ := r
    exact ⟨_, _, begins_text x tk, trivial, fun h' it e => ⟨tk, _, e, rfl, rfl⟩, fun b hb => by cases hb⟩
def iZipM (K : PySem.W.Frag) (ta : TA) : TI := fun σ H R => ta σ H fun vs H1 => ∃ (S1 S2 : Side) (n1 n2 : Nat), vs = [S1.v, S2.v] ∧ S1.has K H1 n1 ∧ S2.has K H1 n2 ∧ R (ItzM K S1 S2) H1
theorem pi_zipM {X : Cx} {e e2 : Expr} {ta : TA} {p pos tpos : Pos} {elts : List Expr} {kk : Nat} (hg : Gl X "zip") (hm : X.mg "zip" = none) (ha : PA X [e, e2] ta)
    (hs : starEach [e, e2] X.env = (false, eval e X.env) :: starEach [e2] X.env := by rfl) (hpl : (backTo pos (starEach [e2] X.env)).any (·.1) = false := by rfl) :
    PI X (.Tuple elts kk tpos) (.Call (.Name "zip" p) [e, e2] [] pos) (iZipM X.K ta) := by
  refine ⟨fun pins s σ H R I h => Call_ (ld_blt I hg hm PyProof.Rows.boot_zip (PyProof.Rows.callWith_type1 (thn (ha.run pos pins s σ H _ I h) fun us s1 ⟨vs, H1, I1, r1, S1, S2, n1, n2, ex, hs1, hs2, q⟩ => ?_) hs hpl))⟩
  subst ex
  cases r1 with
  | cons r rr => cases rr with
    | cons r' rr =>
      cases rr
      obtain ⟨o1, Hd1, B1, g1, st1, lt1⟩ := Side.begins I1 hs1 r
      obtain ⟨o2, Hd2, B2, g2, st2, lt2⟩ := Side.begins I1 hs2 r'
      have fresh5 : ∀ c, c ∈ [s1.heap.objs.size + 4, s1.heap.objs.size + 2, s1.heap.objs.size + 3, s1.heap.objs.size, s1.heap.objs.size + 1] → FpOk X pins H1 c := fun c hcm => by
        have hle : s1.heap.objs.size ≤ c := by
          simp only [List.mem_cons, List.not_mem_nil, or_false] at hcm
          rcases hcm with rfl | rfl | rfl | rfl | rfl
          · exact Nat.le_add_right _ 4
          · exact Nat.le_add_right _ 2
          · exact Nat.le_add_right _ 3
          · exact Nat.le_refl _
          · exact Nat.le_add_right _ 1
        exact I1.fpOk hle (I1.hok.fresh hle)
      refine zip_begins2 B1 B2 g1 g2 fun h' hz hTI hTO h1 h2 hsz hk => wpAny_pyIter_zip hz ?_
      have I2 : Inv X pins σ H1 { s1 with heap := h' } := I1.kept (t' := s1.toks) hk
      exact ⟨s1.heap.objs.size + 4, [s1.heap.objs.size + 4, s1.heap.objs.size + 2, s1.heap.objs.size + 3, s1.heap.objs.size, s1.heap.objs.size + 1], _, _, H1, rfl, I2,
        turn_zipM (S1 := S1) (S2 := S2) (zip_sep2 lt1 lt2) (fun m => Nat.lt_irrefl _ (lt1 _ m)) (fun m => Nat.lt_irrefl _ (Nat.lt_trans (Nat.lt_succ_self _) (lt2 _ m))) ⟨Nat.ne_of_gt (Nat.lt_add_of_pos_right (by decide)), Nat.ne_of_gt (Nat.add_lt_add_left (by decide) _)⟩,
        ⟨hz, hTI, ⟨_, _, hTO⟩, st1 _ _ h1, st2 _ _ h2⟩, fresh5, q⟩
/-- as data -/
def seqD : D → Option (List D)
  | .lst ds => some ds
  | .tup ds => some ds
  | .str x => some (sgD x)
  | _ => none
theorem side_of {K : PySem.W.Frag} {W : Wd} {v : V} {d : D} {ds : List D} (r : Rep K W v d) (e : seqD d = some ds) : ∃ S : Side, v = S.v ∧ (∀ W2, Le W W2 → S.has K W2.H ds.length) ∧
    ∀ (i : Nat) (W2 : Wd) (x : V), Le W W2 → S.val K i W2.H x → i < ds.length → ∃ d', ds[i]? = some d' ∧ Rep K W2 x d' := by
  cases d with
  | lst es =>
    cases e
    obtain ⟨p, vs, rfl, st, rr⟩ := rep_lst r
    refine ⟨.l p, rfl, fun W2 l => ⟨vs, st W2 l, rr.len⟩, fun i W2 x l hv hi => ?_⟩
    obtain ⟨d', e1, e2⟩ := rr.get' (hv vs (st W2 l))
    exact ⟨d', e1, e2.mono l⟩
  | tup es =>
    cases e
    cases r with
    | tup h rr =>
      refine ⟨.t _, rfl, fun W2 l => ⟨_, l.sqT h, rr.len⟩, fun i W2 x l hv hi => ?_⟩
      obtain ⟨d', e1, e2⟩ := rr.get' (hv _ (l.sqT h))
      exact ⟨d', e1, e2.mono l⟩
  | str z =>
    cases e
    cases r
    refine ⟨.s z, rfl, fun W2 l => by show z.cps.size = _; simp [sgD], fun i W2 x l hv hi => ?_⟩
    obtain ⟨c, e1, rfl⟩ := hv
    refine ⟨.str ⟨#[c]⟩, ?_, .str _⟩
    unfold sgD
    rw [List.getElem?_map, Array.getElem?_toList, e1]
    rfl
  | _ => cases e
def zipD : List D → List D → List D
  | a :: r, b :: s => .tup [a, b] :: zipD r s
  | _, _ => []
theorem zipD_len : ∀ {xs ys : List D}, (zipD xs ys).length = min xs.length ys.length
  | [], _ => by simp [zipD]
  | _ :: _, [] => by simp [zipD]
  | a :: r, b :: s => by rw [zipD, List.length_cons, zipD_len, List.length_cons, List.length_cons]; omega
theorem zipD_get : ∀ {xs ys : List D} {i : Nat} {a b : D}, xs[i]? = some a → ys[i]? = some b → (zipD xs ys)[i]? = some (.tup [a, b])
  | [], _, i, a, b, h, _ => by simp at h
  | _ :: _, [], i, a, b, _, h => by simp at h
  | x :: r, y :: s, 0, a, b, h, h' => by cases h; cases h'; rfl
  | x :: r, y :: s, i + 1, a, b, h, h' => by
    rw [zipD, List.getElem?_cons_succ]
    exact zipD_get (by simpa using h) (by simpa using h')
def kZi (Q : List D → Fs → Prop) (rs : List D) (fs1 : Fs) : Prop := match rs with
  | [a, b] => match seqD a, seqD b with
    | some xs, some ys => Q (zipD xs ys) fs1
    | _, _ => False
  | _ => False
def aZip (a : AL) (E : XP) (fs : Fs) (Q : List D → Fs → Prop) : Prop := a E fs (kZi Q)
section
variable {X : Cx} {Ec : L2.St → XK} {e e2 : Expr} {p pos tpos : Pos} {elts : List Expr} {kk : Nat} {a : AL}
theorem ix_zip (hm : X.mg "zip" = none) (ha : EL X Ec [e, e2] a) (hg : Gl X "zip" := by rfl) (hs : starEach [e, e2] X.env = (false, eval e X.env) :: starEach [e2] X.env := by rfl) (hpl : (backTo pos (starEach [e2] X.env)).any (·.1) = false := by rfl) :
    IX X Ec (.Tuple elts kk tpos) (.Call (.Name "zip" p) [e, e2] [] pos) (aZip a) := IXt.x ⟨pi_zipM hg hm ha.p hs hpl, fun c σ W fs E R Q' F A h k => by
  refine ha.s c σ W fs E _ _ F A h fun vs ds W1 fs1 l1 F1 r1 q1 => ?_
  unfold kZi at q1
  split at q1
  · rename_i da db
    split at q1
    · rename_i xs ys ea eb
      cases r1 with
      | cons ra rr => cases rr with
        | cons rb rr =>
          cases rr
          obtain ⟨S1, rfl, h1, v1⟩ := side_of ra ea
          obtain ⟨S2, rfl, h2, v2⟩ := side_of rb eb
          refine ⟨S1, S2, _, _, rfl, h1 W1 (Le.refl W1), h2 W1 (Le.refl W1), k _ (zipD xs ys) W1 fs1 l1 F1 ⟨fun i W2 l hi => ?_, fun i W2 l hi => ?_, fun i W2 x H' l dF y hi => ?_⟩ q1⟩
          · rw [zipD_len] at hi
            exact ⟨_, _, h1 W2 l, h2 W2 l, by omega, by omega⟩
          · rw [zipD_len] at hi
            exact ⟨_, _, h1 W2 l, h2 W2 l, by omega, by omega, by omega⟩
          · rw [zipD_len] at hi
            obtain ⟨T, x1, x2, rfl, nT, rfl, w1, w2⟩ := y
            obtain ⟨d1, e1, r1⟩ := v1 i W2 x1 l w1 (by omega)
            obtain ⟨d2, e2, r2⟩ := v2 i W2 x2 l w2 (by omega)
            have ex : Exs W2.H (upd W2.H T (.tup [x1, x2])) := Exs.new nT
            have lg := Le.grow (W := W2) ex dF
            exact ⟨.tup [d1, d2], zipD_get e1 e2, ex, .tup (.inl (.inl upd_same)) (.cons (r1.mono lg) (.cons (r2.mono lg) .nil))⟩
    · exact q1.elim
  · exact q1.elim⟩
end
end G


namespace PySem
open PySem.Spec PyProof.Rows
set_option maxHeartbeats 1000000 in
/-- enumerate(v) of whatever begins -/
theorem meets_enum1 {v : Value} {o : Obj} {H : Heap → Prop} (B : Begins v o H) :
    Meets (Builtin.«enumerate.__new__» ⟨[.type "enumerate", v], []⟩) (fun _ R s => H s.heap ∧ R (.ok (.ret (.ref (s.heap.push o).objs.size)))
      { s with heap := (s.heap.push o).push { cls := .type "enumerate", data := .fields #[.none, .bool false, .ref s.heap.objs.size, rawInt 0, .none, .none] } }) :=
  .of_wp fun prog w A R s ⟨h1, h⟩ => by
    obtain ⟨hp, g, d, tk, os⟩ := s
    have hsub := sub_enumerate
    have q1 : ∀ {A' : Around} {E Q : Value → Shared → Prop}, Q (.ref hp.objs.size) ⟨hp.push o, g, d, tk, os⟩ → wpAny (model prog w) A' (pyIter v) Q E ⟨hp, g, d, tk, os⟩ := fun q => B.iter prog w _ _ ⟨hp, g, d, tk, os⟩ _ h1 q
    wp_walk using q1
    refine wpAny_stack_any fun st => wpAny_pure ?_
    split
    · rename_i c _ _ _ _ _
      cases (c == Value.type "enumerate") <;> (wp_walk using q1; exact ⟨_, rfl, h⟩)
    · (wp_walk using q1; exact ⟨_, rfl, h⟩)
theorem call_enum1 {prog : Program} {w : World} {A : Around} {E : Value → Shared → Prop} {s : Shared} {v : Value} {o : Obj} {H : Heap → Prop} {Q : Value → Shared → Prop} (B : Begins v o H) (h1 : H s.heap)
    (h : ∀ h', IsEnum h' (s.heap.objs.size + 1) s.heap.objs.size 0 .none → h'.get? s.heap.objs.size = some o → (∀ b u, s.heap.get? b = some u → h'.get? b = some u) → Q (.ref (s.heap.objs.size + 1)) { s with heap := h' }) :
    wpAny (model prog w) A (call (.type "enumerate") [v]) Q E s := by
  refine callType_new F.called_enumerate (by decide) (F.typeCall_enumerate_1 _) (F.newCall_enumerate_1 _) (fun obj => F.args_object_init_2 obj _) F.entry_enumerate_new (meets_enum1 B) ⟨h1, ?_⟩
  have hz : (s.heap.push o).objs.size = s.heap.objs.size + 1 := Heap.size_push ..
  show _ ∧ _
  rw [hz]
  have he : IsEnum ((s.heap.push o).push { cls := .type "enumerate", data := .fields #[.none, .bool false, .ref s.heap.objs.size, rawInt 0, .none, .none] }) (s.heap.objs.size + 1) s.heap.objs.size 0 .none := by
    have := Heap.get?_push_size (s.heap.push o) (o := { cls := .type "enumerate", data := .fields #[.none, .bool false, .ref s.heap.objs.size, rawInt 0, .none, .none] }) rfl
    rw [hz] at this; exact this
  exact ⟨⟨_, he, rfl⟩, h _ he (Heap.get?_push_of_some _ (Heap.get?_push_size _ B.free)) fun b u x => Heap.get?_push_of_some _ (Heap.get?_push_of_some _ x)⟩
end PySem

namespace G
open PySem PySem.Spec PyProof.Rows L2
/-- the items with their numbers, in new pairs -/
def IteM (K : PySem.W.Frag) (S : Side) : It :=
  ⟨fun i H => ∃ n, S.has K H n ∧ i < n,
    fun i H v H' => ∃ T x, v = .ref T ∧ H T = none ∧ H' = upd H T (.tup [.int (i : Nat), x]) ∧ S.val K i H x,
    fun i H => S.has K H i⟩
theorem turn_enumM {P : Program} {w : World} {K : PySem.W.Frag} {elts : List Expr} {kk : Nat} {tpos : Pos} {S : Side} {e it : Addr} (hne : e ≠ it) (ho : it ∉ S.own) (heo : e ∉ S.own) :
    Turn P w K (.Tuple elts kk tpos) (IteM K S) [e, it] e (fun i h => (∃ old, IsEnum h e it ((i : Nat) : Int) old) ∧ S.st it i h) where
  mem := List.mem_cons_self
  obj := fun i h st b hb => by
    obtain ⟨⟨old, he⟩, hi⟩ := st
    simp only [List.mem_cons, List.not_mem_nil, or_false] at hb
    rcases hb with rfl | rfl
    · exact ⟨_, he, fun v q => nomatch q⟩
    · exact Side.st_obj (S := S) hi
  keep := fun i h h' st k => by
    obtain ⟨⟨old, he⟩, hi⟩ := st
    exact ⟨⟨old, k e (by simp) _ he⟩, Side.st_keep (S := S) (fun o q => k it (by simp) o q) hi⟩
  item := by
    intro X hP hw hK hc i pins s σ H E I hf st ⟨n, hs, hl⟩
    subst hP hw hK
    obtain ⟨⟨old, he⟩, hi⟩ := st
    have hh : X.A.in1.handled = none := I.ok.hd hc
    obtain ⟨P1, St1, D1, t1, b1, v1⟩ := Side.draws (A := X.A.in1) hh I hi hs ho
    have hel : e < s.heap.objs.size := Heap.lt_size he
    have hil : it < s.heap.objs.size := by obtain ⟨_, q, _⟩ := Side.st_obj (S := S) hi; exact Heap.lt_size q
    have hef : e ∉ it :: S.own := fun m => by
      rcases List.mem_cons.mp m with z | z
      · exact hne z
      · exact heo z
    refine wpAny_pyNext_enum_itemD D1 he t1 hl hne hef fun u h' tk p1 hout s1 hT hsz hk => ?_
    obtain ⟨x, ru, w1⟩ := v1 u p1
    refine ⟨_, rfl, wpAny_letOwnedTupleGo_enum (s := { s with heap := h', toks := tk + 1 }) hout fun h'' he' sb => ?_⟩
    have hT2 : h''.get? s.heap.objs.size = some { cls := .type "tuple", data := .seq #[.int i tk, u] } := (sb.2 _ (Nat.ne_of_gt hel)).trans hT
    have new : ObjOk X.prog X.w (upd H s.heap.objs.size (.tup [.int (i : Nat), x])) h'' s.heap.objs.size (.tup [.int (i : Nat), x]) :=
      ⟨by show 2 ≤ sizeLine; decide, [.int i tk, u], .cons ⟨_, rfl⟩ (.cons ru .nil), ⟨_, hT2, rfl, _, rfl⟩⟩
    have I1 : Inv X pins σ (upd H s.heap.objs.size (.tup [.int (i : Nat), x])) { s with heap := h'', toks := tk + 1 } :=
      I.turnedNew (t' := tk + 1) (ch := [e, it]) (fun b ob hb q => (sb.2 b (fun z => hb (by simp [z]))).trans (hk b ob (fun z => hb (by simp [z])) (fun z => hb (by simp [z])) q)) hf (Nat.le_refl _) new
    refine ⟨.ref s.heap.objs.size, _, I1, rfl, ⟨_, x, rfl, I.hok.fresh (Nat.le_refl _), rfl, w1⟩, ⟨⟨u, ?_⟩, Side.st_keep (S := S) (fun o q => (sb.2 it (Ne.symm hne)).trans q) (b1 _ _ s1)⟩, fun b hb => ?_⟩
    · have e1 : ((i + 1 : Nat) : Int) = (i : Int) + 1 := by omega
      rw [e1]; exact he'
    · have hb' : b < s.heap.objs.size := by
        simp only [List.mem_cons, List.not_mem_nil, or_false] at hb
        rcases hb with rfl | rfl
        · exact hel
        · exact hil
      rw [upd_ne (Nat.ne_of_lt hb')]
      exact (hf b hb).1
  done := by
    intro X hP hw hK hc i pins s σ H E I hf st hs
    subst hP hw hK
    obtain ⟨⟨old, he⟩, hi⟩ := st
    have hh : X.A.in1.handled = none := I.ok.hd hc
    obtain ⟨P1, St1, D1, t1, b1, v1⟩ := Side.draws (A := X.A.in1) hh I hi hs ho
    exact wpAny_pyNext_enum_endD D1 he t1 fun h' eb => ⟨rfl, I.turnedL (t' := s.toks) (ch := [e, it]) (fun b o hb q => eb b o (fun z => hb (by simp [z])) q) hf⟩
  self := fun A i s Q E st h => let ⟨⟨_, he⟩, _⟩ := st; wpAny_pyIter_enum he h
def iEnumM (K : PySem.W.Frag) (ta : TA) : TI := fun σ H R => ta σ H fun vs H1 => ∃ (S : Side) (n : Nat), vs = [S.v] ∧ S.has K H1 n ∧ R (IteM K S) H1
theorem pi_enumM {X : Cx} {e : Expr} {ta : TA} {p pos tpos : Pos} {elts : List Expr} {kk : Nat} (hg : Gl X "enumerate") (hm : X.mg "enumerate" = none) (ha : PA X [e] ta) (hs : starEach [e] X.env = [(false, eval e X.env)] := by rfl) :
    PI X (.Tuple elts kk tpos) (.Call (.Name "enumerate" p) [e] [] pos) (iEnumM X.K ta) := by
  refine ⟨fun pins s σ H R I h => Call_ (ld_blt I hg hm boot_enumerate (PyProof.Rows.callWith_type1 (thn (ha.run pos pins s σ H _ I h) fun us s1 ⟨vs, H1, I1, r1, S, n, ex, hs1, q⟩ => ?_) hs rfl))⟩
  subst ex
  cases r1 with
  | cons r rr =>
    cases rr
    obtain ⟨o1, Hd1, B1, g1, st1, lt1⟩ := Side.begins I1 hs1 r
    refine call_enum1 B1 g1 fun h' he hit hk => wpAny_pyIter_enum he ?_
    have I2 : Inv X pins σ H1 { s1 with heap := h' } := I1.kept (t' := s1.toks) hk
    refine ⟨s1.heap.objs.size + 1, [s1.heap.objs.size + 1, s1.heap.objs.size], _, _, H1, rfl, I2, turn_enumM (S := S) (Nat.succ_ne_self _) (fun m => Nat.lt_irrefl _ (lt1 _ m)) (fun m => Nat.lt_irrefl _ (Nat.lt_trans (Nat.lt_succ_self _) (lt1 _ m))), ⟨⟨.none, he⟩, st1 _ _ hit⟩, fun b hb => ?_, q⟩
    have hle : s1.heap.objs.size ≤ b := by
      simp only [List.mem_cons, List.not_mem_nil, or_false] at hb
      rcases hb with rfl | rfl
      · exact Nat.le_add_right _ 1
      · exact Nat.le_refl _
    exact I1.fpOk hle (I1.hok.fresh hle)
def enumD : Nat → List D → List D
  | _, [] => []
  | k, d :: ds => .tup [.int (k : Nat), d] :: enumD (k + 1) ds
theorem enumD_len : ∀ {k : Nat} {ds : List D}, (enumD k ds).length = ds.length
  | _, [] => rfl
  | k, d :: ds => by rw [enumD, List.length_cons, enumD_len, List.length_cons]
theorem enumD_get : ∀ {k : Nat} {ds : List D} {i : Nat} {d : D}, ds[i]? = some d → (enumD k ds)[i]? = some (.tup [.int ((k + i : Nat) : Int), d])
  | _, [], i, d, h => by simp at h
  | k, x :: r, 0, d, h => by cases h; rfl
  | k, x :: r, i + 1, d, h => by
    rw [enumD, List.getElem?_cons_succ, enumD_get (by simpa using h), show k + 1 + i = k + (i + 1) by omega]
def kEn (Q : List D → Fs → Prop) (rs : List D) (fs1 : Fs) : Prop := match rs with
  | [a] => match seqD a with
    | some xs => Q (enumD 0 xs) fs1
    | none => False
  | _ => False
def aEnum (a : AL) (E : XP) (fs : Fs) (Q : List D → Fs → Prop) : Prop := a E fs (kEn Q)
section
variable {X : Cx} {Ec : L2.St → XK} {e : Expr} {p pos tpos : Pos} {elts : List Expr} {kk : Nat} {a : AL}
theorem ix_enum (hm : X.mg "enumerate" = none) (ha : EL X Ec [e] a) (hg : Gl X "enumerate" := by rfl) (hs : starEach [e] X.env = [(false, eval e X.env)] := by rfl) :
    IX X Ec (.Tuple elts kk tpos) (.Call (.Name "enumerate" p) [e] [] pos) (aEnum a) := IXt.x ⟨pi_enumM hg hm ha.p hs, fun c σ W fs E R Q' F A h k => by
  refine ha.s c σ W fs E _ _ F A h fun vs ds W1 fs1 l1 F1 r1 q1 => ?_
  unfold kEn at q1
  split at q1
  · rename_i da
    split at q1
    · rename_i xs ea
      cases r1 with
      | cons ra rr =>
        cases rr
        obtain ⟨S, rfl, h1, v1⟩ := side_of ra ea
        refine ⟨S, _, rfl, h1 W1 (Le.refl W1), k _ (enumD 0 xs) W1 fs1 l1 F1 ⟨fun i W2 l hi => ?_, fun i W2 l hi => ?_, fun i W2 x H' l dF y hi => ?_⟩ q1⟩
        · rw [enumD_len] at hi
          exact ⟨_, h1 W2 l, hi⟩
        · rw [enumD_len] at hi
          rw [hi]
          exact h1 W2 l
        · rw [enumD_len] at hi
          obtain ⟨T, x1, rfl, nT, rfl, w1⟩ := y
          obtain ⟨d1, e1, r1⟩ := v1 i W2 x1 l w1 hi
          have ex : Exs W2.H (upd W2.H T (.tup [.int (i : Nat), x1])) := Exs.new nT
          have lg := Le.grow (W := W2) ex dF
          refine ⟨.tup [.int (i : Nat), d1], ?_, ex, .tup (.inl (.inl upd_same)) (.cons (.int _) (.cons (r1.mono lg) .nil))⟩
          have := enumD_get (k := 0) e1
          rw [Nat.zero_add] at this
          exact this
    · exact q1.elim
  · exact q1.elim⟩
end
end G

namespace G
open PySem PySem.Spec PyProof.Rows L2

/-! a text, some times -/
def rMulS : R2 := fun x y H Q => ∃ (z : Str) (n : Int), x = .str z ∧ y = .int n ∧ 0 ≤ n ∧ n ≤ 1000 ∧ z.length ≤ 1000 ∧ Q (.str (Txt.mul z n)) H
theorem mulOk {z : Str} {n : Int} (h0 : 0 ≤ n) (h1 : n ≤ 1000) (h2 : z.length ≤ 1000) : MulOk z n := by
  have key : z.length * n.toNat ≤ 1000 * 1000 := Nat.mul_le_mul h2 (by omega)
  refine ⟨?_, fun a _ => ?_, fun a _ => PyProof.Rows.short24 (by omega)⟩
  · rw [Bool.or_eq_false_iff]
    exact ⟨decide_eq_false (by omega), decide_eq_false (by omega)⟩
  · have hn : 0 < n := by omega
    have : (z.length : Int) ≤ (2 ^ 63 - 1) / n := Int.le_ediv_of_mul_le hn (by
      have e : ((z.length * n.toNat : Nat) : Int) = (z.length : Int) * n := by rw [Int.natCast_mul, Int.toNat_of_nonneg h0]
      omega)
    omega
section
variable {X : Cx}
theorem op_mulS : OpR X (binaryOp .Mult) rMulS := by
  intro pins s σ H x y v u Q I rx ry ⟨z, n, ex, ey, h0, h1, h2, q⟩
  subst ex ey
  obtain ⟨t, rfl⟩ := rx
  obtain ⟨t2, rfl⟩ := ry
  exact PySem.SB.mul (mulOk h0 h1 h2) fun t' k => ⟨.str (Txt.mul z n), H, I.tok _, ⟨t', rfl⟩, q⟩
theorem op_mulA : OpR X (binaryOp .Mult) (fun x y H Q => rI CMul (fun i j => .int (i * j)) x y H Q ∨ rMulS x y H Q) := opr_or op_mul op_mulS
end
def arMulA (d e : D) (Q : Zx → Prop) : Prop := match d, e with
  | .int i, .int j => CMul i j ∧ Q (.dt (.int (i * j)))
  | .str z, .int n => (0 ≤ n ∧ n ≤ 1000 ∧ z.length ≤ 1000) ∧ Q (.dt (.str (Txt.mul z n)))
  | _, _ => False
theorem op2_mulA {K : PySem.W.Frag} : Op2 K (fun x y H Q => rI CMul (fun i j => .int (i * j)) x y H Q ∨ rMulS x y H Q) arMulA := fun W x y d e Q Q' dF hx hy h k => by
  unfold arMulA at h
  split at h
  · exact .inl (op2_mul W x y _ _ Q Q' dF hx hy h k)
  · cases hx.str; cases hy.int
    exact .inr ⟨_, _, rfl, rfl, h.1.1, h.1.2.1, h.1.2.2, k _ _ W.H (Exs.refl _) (zx0 (.str _)) h.2⟩
  · exact h.elim
theorem mul_len {z : Str} {n : Int} (h : z.length ≤ 1) : (Txt.mul z n).length ≤ n.toNat + 1 := by
  unfold Txt.mul
  split
  · show (0 : Nat) ≤ _; omega
  · split
    · omega
    · rename_i h1 h2
      have key : ∀ (k : Nat) (acc : Array Nat), ((List.replicate k z.cps).foldl (· ++ ·) acc).size ≤ acc.size + k := by
        intro k
        induction k with
        | zero => intro acc; exact Nat.le_refl _
        | succ k ih =>
          intro acc
          rw [List.replicate_succ, List.foldl_cons]
          have := ih (acc ++ z.cps)
          rw [Array.size_append] at this
          have hz : z.cps.size ≤ 1 := h
          omega
      have := key n.toNat #[]
      show ((List.replicate n.toNat z.cps).foldl (· ++ ·) #[]).size ≤ _
      have e : (#[] : Array Nat).size = 0 := rfl
      omega
/-- xs[k:] -/
theorem cut_from {α : Type} {xs : List α} {n : Nat} {k : Int} (e : n = xs.length) (h0 : 0 ≤ k) : (xs.drop (HT.sIx n 0 (some k))).take (HT.sIx n n none - HT.sIx n 0 (some k)) = xs.drop k.toNat := by
  have e1 : HT.sIx n 0 (some k) = min k.toNat n := by
    show (if k < 0 then (k + (n : Int)).toNat else min k.toNat n) = _
    rw [if_neg (by omega)]
  have e2 : HT.sIx n n none = n := rfl
  rw [e1, e2, List.take_of_length_le (by rw [List.length_drop]; omega)]
  by_cases h : k.toNat ≤ n
  · rw [Nat.min_eq_left h]
  · rw [Nat.min_eq_right (by omega), List.drop_eq_nil_of_le (by omega), List.drop_eq_nil_of_le (by omega)]
theorem cut_to {α : Type} {xs : List α} {n : Nat} {k : Int} (e : n = xs.length) (h0 : 0 ≤ k) : (xs.drop (HT.sIx n 0 none)).take (HT.sIx n n (some k) - HT.sIx n 0 none) = xs.take k.toNat := by
  have e1 : HT.sIx n n (some k) = min k.toNat n := by
    show (if k < 0 then (k + (n : Int)).toNat else min k.toNat n) = _
    rw [if_neg (by omega)]
  have e2 : HT.sIx n 0 none = 0 := rfl
  rw [e1, e2, List.drop_zero, Nat.sub_zero]
  by_cases h : k.toNat ≤ n
  · rw [Nat.min_eq_left h]
  · rw [Nat.min_eq_right (by omega), List.take_of_length_le (by omega), List.take_of_length_le (by omega)]
theorem len_two {α : Type} : ∀ {l : List α}, l.length = 2 → ∃ a b, l = [a, b]
  | [a, b], _ => ⟨a, b, rfl⟩
theorem len_three {α : Type} : ∀ {l : List α}, l.length = 3 → ∃ a b c, l = [a, b, c]
  | [a, b, c], _ => ⟨a, b, c, rfl⟩
theorem len_one {α : Type} : ∀ {l : List α}, l.length = 1 → ∃ a, l = [a]
  | [a], _ => ⟨a, rfl⟩
theorem len_zero {α : Type} : ∀ {l : List α}, l.length = 0 → l = []
  | [], _ => rfl
theorem zipD_mem : ∀ {xs ys : List D} {d : D}, d ∈ zipD xs ys → ∃ a b, a ∈ xs ∧ b ∈ ys ∧ d = .tup [a, b]
  | [], _, d, h => by simp [zipD] at h
  | _ :: _, [], d, h => by simp [zipD] at h
  | x :: r, y :: s, d, h => by
    rw [zipD, List.mem_cons] at h
    rcases h with rfl | h
    · exact ⟨x, y, List.mem_cons_self, List.mem_cons_self, rfl⟩
    · obtain ⟨a, b, h1, h2, h3⟩ := zipD_mem h
      exact ⟨a, b, List.mem_cons_of_mem _ h1, List.mem_cons_of_mem _ h2, h3⟩
theorem flat_strs : ∀ zs : List Str, (zs.map D.str).all flatD = true
  | [] => rfl
  | z :: zs => by rw [List.map_cons, List.all_cons, flat_strs zs]; rfl
/-! a, b = x, y with plain names -/
def kPar (i j : Nat) (A : AEnds) (ds : List D) (fs1 : Fs) : Prop := match ds with
  | [x, y] => free? fs1 i ∧ free? (fs1.set i (.dat x)) j ∧ A.nx ((fs1.set i (.dat x)).set j (.dat y))
  | _ => False
def aPar (i j : Nat) (a : AL) (E : XP) (A : AEnds) (fs : Fs) : Prop := a E fs (kPar i j A)
section
variable {X : Cx} {Ec : L2.St → XK} {x y : Str} {a b : Expr} {al : AL} {px py pt pt2 pos : Pos} {kt k2 : Nat}
theorem sx_par (i j : Nat) (hc : X.calm = true) (hN : X.N.Nodup) (ha : EL X Ec [a, b] al) (hi : X.N[i]? = some x := by rfl) (hj : X.N[j]? = some y := by rfl) (hij : i ≠ j := by decide)
    (hx : X.env.scope.names.lookup x = some .local := by rfl) (hy : X.env.scope.names.lookup y = some .local := by rfl)
    (hw : swappedStores [.Tuple [.Name x px, .Name y py] kt pt] (.Tuple [a, b] k2 pt2) X.env = pure (some [x, y]) := by rfl)
    (hs : swapsWithSole [.Tuple [.Name x px, .Name y py] kt pt] (.Tuple [a, b] k2 pt2) pos.line X.env = pure false := by rfl) :
    SX X Ec (.Assign [.Tuple [.Name x px, .Name y py] kt pt] (.Tuple [a, b] k2 pt2) pos) (aPar i j al) := SXt.x ⟨ps_par hc hN hi hj hij hx hy ha.p hw hs, fun c σ W fs E D A F ad h k => by
  refine ha.s c σ W fs E _ _ F ad h fun vs ds W1 fs1 l1 F1 r1 q1 => ?_
  unfold kPar at q1
  split at q1
  · cases r1 with
    | cons ra rr => cases rr with
      | cons rb rr =>
        cases rr
        exact ⟨_, _, rfl, k.nx _ W1 _ l1 ((F1.setD q1.1 ra).setD q1.2.1 rb) q1.2.2⟩
  · exact q1.elim⟩
end
theorem aSeq_q {a b : AS} {E : XP} {A : AEnds} {fs : Fs} : aSeq a b E A fs = a E { nx := b E A, rt := A.rt, bk := A.bk, ct := A.ct } fs := id rfl
end G

namespace G
open PySem PySem.Spec PyProof.Rows L2
/-! the readings, sealed: a name that nothing unfolds, and its equation -/
theorem oV_x : ∃ f, f = @aV := ⟨_, rfl⟩
noncomputable def oV := Classical.choose oV_x
theorem oV_s : @aV = oV := (Classical.choose_spec oV_x).symm
theorem oD_x : ∃ f, f = @aD := ⟨_, rfl⟩
noncomputable def oD := Classical.choose oD_x
theorem oD_s : @aD = oD := (Classical.choose_spec oD_x).symm
theorem oVs_x : ∃ f, f = @aVs := ⟨_, rfl⟩
noncomputable def oVs := Classical.choose oVs_x
theorem oVs_s : @aVs = oVs := (Classical.choose_spec oVs_x).symm
theorem oLs_x : ∃ f, f = @aLs := ⟨_, rfl⟩
noncomputable def oLs := Classical.choose oLs_x
theorem oLs_s : @aLs = oLs := (Classical.choose_spec oLs_x).symm
theorem oOp_x : ∃ f, f = @aOp := ⟨_, rfl⟩
noncomputable def oOp := Classical.choose oOp_x
theorem oOp_s : @aOp = oOp := (Classical.choose_spec oOp_x).symm
theorem oCB_x : ∃ f, f = @aCB := ⟨_, rfl⟩
noncomputable def oCB := Classical.choose oCB_x
theorem oCB_s : @aCB = oCB := (Classical.choose_spec oCB_x).symm
theorem oVar_x : ∃ f, f = @aVar := ⟨_, rfl⟩
noncomputable def oVar := Classical.choose oVar_x
theorem oVar_s : @aVar = oVar := (Classical.choose_spec oVar_x).symm
theorem oC_x : ∃ f, f = @aC := ⟨_, rfl⟩
noncomputable def oC := Classical.choose oC_x
theorem oC_s : @aC = oC := (Classical.choose_spec oC_x).symm
theorem oTup_x : ∃ f, f = @aTup := ⟨_, rfl⟩
noncomputable def oTup := Classical.choose oTup_x
theorem oTup_s : @aTup = oTup := (Classical.choose_spec oTup_x).symm
theorem oLst_x : ∃ f, f = @aLst := ⟨_, rfl⟩
noncomputable def oLst := Classical.choose oLst_x
theorem oLst_s : @aLst = oLst := (Classical.choose_spec oLst_x).symm
theorem oTr_x : ∃ f, f = @aTr := ⟨_, rfl⟩
noncomputable def oTr := Classical.choose oTr_x
theorem oTr_s : @aTr = oTr := (Classical.choose_spec oTr_x).symm
theorem oNotT_x : ∃ f, f = @aNotT := ⟨_, rfl⟩
noncomputable def oNotT := Classical.choose oNotT_x
theorem oNotT_s : @aNotT = oNotT := (Classical.choose_spec oNotT_x).symm
theorem oAndT_x : ∃ f, f = @aAndT := ⟨_, rfl⟩
noncomputable def oAndT := Classical.choose oAndT_x
theorem oAndT_s : @aAndT = oAndT := (Classical.choose_spec oAndT_x).symm
theorem oOrT_x : ∃ f, f = @aOrT := ⟨_, rfl⟩
noncomputable def oOrT := Classical.choose oOrT_x
theorem oOrT_s : @aOrT = oOrT := (Classical.choose_spec oOrT_x).symm
theorem oBl_x : ∃ f, f = @aBl := ⟨_, rfl⟩
noncomputable def oBl := Classical.choose oBl_x
theorem oBl_s : @aBl = oBl := (Classical.choose_spec oBl_x).symm
theorem oIfE_x : ∃ f, f = @aIfE := ⟨_, rfl⟩
noncomputable def oIfE := Classical.choose oIfE_x
theorem oIfE_s : @aIfE = oIfE := (Classical.choose_spec oIfE_x).symm
theorem oAndV_x : ∃ f, f = @aAndV := ⟨_, rfl⟩
noncomputable def oAndV := Classical.choose oAndV_x
theorem oAndV_s : @aAndV = oAndV := (Classical.choose_spec oAndV_x).symm
theorem oOrV_x : ∃ f, f = @aOrV := ⟨_, rfl⟩
noncomputable def oOrV := Classical.choose oOrV_x
theorem oOrV_s : @aOrV = oOrV := (Classical.choose_spec oOrV_x).symm
theorem oNotV_x : ∃ f, f = @aNotV := ⟨_, rfl⟩
noncomputable def oNotV := Classical.choose oNotV_x
theorem oNotV_s : @aNotV = oNotV := (Classical.choose_spec oNotV_x).symm
theorem oSeq_x : ∃ f, f = @aSeq := ⟨_, rfl⟩
noncomputable def oSeq := Classical.choose oSeq_x
theorem oSeq_s : @aSeq = oSeq := (Classical.choose_spec oSeq_x).symm
theorem oNext_x : ∃ f, f = @aNext := ⟨_, rfl⟩
noncomputable def oNext := Classical.choose oNext_x
theorem oNext_s : @aNext = oNext := (Classical.choose_spec oNext_x).symm
theorem oDrop_x : ∃ f, f = @aDrop := ⟨_, rfl⟩
noncomputable def oDrop := Classical.choose oDrop_x
theorem oDrop_s : @aDrop = oDrop := (Classical.choose_spec oDrop_x).symm
theorem oIf_x : ∃ f, f = @aIf := ⟨_, rfl⟩
noncomputable def oIf := Classical.choose oIf_x
theorem oIf_s : @aIf = oIf := (Classical.choose_spec oIf_x).symm
theorem oRet_x : ∃ f, f = @aRet := ⟨_, rfl⟩
noncomputable def oRet := Classical.choose oRet_x
theorem oRet_s : @aRet = oRet := (Classical.choose_spec oRet_x).symm
theorem oRetD_x : ∃ f, f = @aRetD := ⟨_, rfl⟩
noncomputable def oRetD := Classical.choose oRetD_x
theorem oRetD_s : @aRetD = oRetD := (Classical.choose_spec oRetD_x).symm
theorem oRetN_x : ∃ f, f = @aRetN := ⟨_, rfl⟩
noncomputable def oRetN := Classical.choose oRetN_x
theorem oRetN_s : @aRetN = oRetN := (Classical.choose_spec oRetN_x).symm
theorem oBreak_x : ∃ f, f = @aBreak := ⟨_, rfl⟩
noncomputable def oBreak := Classical.choose oBreak_x
theorem oBreak_s : @aBreak = oBreak := (Classical.choose_spec oBreak_x).symm
theorem oCont_x : ∃ f, f = @aCont := ⟨_, rfl⟩
noncomputable def oCont := Classical.choose oCont_x
theorem oCont_s : @aCont = oCont := (Classical.choose_spec oCont_x).symm
theorem oSet_x : ∃ f, f = @aSet := ⟨_, rfl⟩
noncomputable def oSet := Classical.choose oSet_x
theorem oSet_s : @aSet = oSet := (Classical.choose_spec oSet_x).symm
theorem oSetO_x : ∃ f, f = @aSetO := ⟨_, rfl⟩
noncomputable def oSetO := Classical.choose oSetO_x
theorem oSetO_s : @aSetO = oSetO := (Classical.choose_spec oSetO_x).symm
theorem oWhile_x : ∃ f, f = @aWhile := ⟨_, rfl⟩
noncomputable def oWhile := Classical.choose oWhile_x
theorem oWhile_s : @aWhile = oWhile := (Classical.choose_spec oWhile_x).symm
theorem ogName_x : ∃ f, f = @agName := ⟨_, rfl⟩
noncomputable def ogName := Classical.choose ogName_x
theorem ogName_s : @agName = ogName := (Classical.choose_spec ogName_x).symm
theorem ogTup_x : ∃ f, f = @agTup := ⟨_, rfl⟩
noncomputable def ogTup := Classical.choose ogTup_x
theorem ogTup_s : @agTup = ogTup := (Classical.choose_spec ogTup_x).symm
theorem oIL_x : ∃ f, f = @aIL := ⟨_, rfl⟩
noncomputable def oIL := Classical.choose oIL_x
theorem oIL_s : @aIL = oIL := (Classical.choose_spec oIL_x).symm
theorem oIT_x : ∃ f, f = @aIT := ⟨_, rfl⟩
noncomputable def oIT := Classical.choose oIT_x
theorem oIT_s : @aIT = oIT := (Classical.choose_spec oIT_x).symm
theorem oIS_x : ∃ f, f = @aIS := ⟨_, rfl⟩
noncomputable def oIS := Classical.choose oIS_x
theorem oIS_s : @aIS = oIS := (Classical.choose_spec oIS_x).symm
theorem oIR1_x : ∃ f, f = @aIR1 := ⟨_, rfl⟩
noncomputable def oIR1 := Classical.choose oIR1_x
theorem oIR1_s : @aIR1 = oIR1 := (Classical.choose_spec oIR1_x).symm
theorem oIR2_x : ∃ f, f = @aIR2 := ⟨_, rfl⟩
noncomputable def oIR2 := Classical.choose oIR2_x
theorem oIR2_s : @aIR2 = oIR2 := (Classical.choose_spec oIR2_x).symm
theorem oFor_x : ∃ f, f = @aFor := ⟨_, rfl⟩
noncomputable def oFor := Classical.choose oFor_x
theorem oFor_s : @aFor = oFor := (Classical.choose_spec oFor_x).symm
theorem oComp_x : ∃ f, f = @aComp := ⟨_, rfl⟩
noncomputable def oComp := Classical.choose oComp_x
theorem oComp_s : @aComp = oComp := (Classical.choose_spec oComp_x).symm
theorem oYes_x : ∃ f, f = @aYes := ⟨_, rfl⟩
noncomputable def oYes := Classical.choose oYes_x
theorem oYes_s : @aYes = oYes := (Classical.choose_spec oYes_x).symm
theorem oClr_x : ∃ f, f = @aClr := ⟨_, rfl⟩
noncomputable def oClr := Classical.choose oClr_x
theorem oClr_s : @aClr = oClr := (Classical.choose_spec oClr_x).symm
theorem oCall_x : ∃ f, f = @aCall := ⟨_, rfl⟩
noncomputable def oCall := Classical.choose oCall_x
theorem oCall_s : @aCall = oCall := (Classical.choose_spec oCall_x).symm
theorem oON_x : ∃ f, f = @aON := ⟨_, rfl⟩
noncomputable def oON := Classical.choose oON_x
theorem oON_s : @aON = oON := (Classical.choose_spec oON_x).symm
theorem oOS_x : ∃ f, f = @aOS := ⟨_, rfl⟩
noncomputable def oOS := Classical.choose oOS_x
theorem oOS_s : @aOS = oOS := (Classical.choose_spec oOS_x).symm
theorem oSl_x : ∃ f, f = @aSl := ⟨_, rfl⟩
noncomputable def oSl := Classical.choose oSl_x
theorem oSl_s : @aSl = oSl := (Classical.choose_spec oSl_x).symm
theorem oIsi_x : ∃ f, f = @aIsi := ⟨_, rfl⟩
noncomputable def oIsi := Classical.choose oIsi_x
theorem oIsi_s : @aIsi = oIsi := (Classical.choose_spec oIsi_x).symm
theorem oMut_x : ∃ f, f = @aMut := ⟨_, rfl⟩
noncomputable def oMut := Classical.choose oMut_x
theorem oMut_s : @aMut = oMut := (Classical.choose_spec oMut_x).symm
theorem oMut0_x : ∃ f, f = @aMut0 := ⟨_, rfl⟩
noncomputable def oMut0 := Classical.choose oMut0_x
theorem oMut0_s : @aMut0 = oMut0 := (Classical.choose_spec oMut0_x).symm
theorem oPut_x : ∃ f, f = @aPut := ⟨_, rfl⟩
noncomputable def oPut := Classical.choose oPut_x
theorem oPut_s : @aPut = oPut := (Classical.choose_spec oPut_x).symm
theorem oAug_x : ∃ f, f = @aAug := ⟨_, rfl⟩
noncomputable def oAug := Classical.choose oAug_x
theorem oAug_s : @aAug = oAug := (Classical.choose_spec oAug_x).symm
theorem oMS_x : ∃ f, f = @aMS := ⟨_, rfl⟩
noncomputable def oMS := Classical.choose oMS_x
theorem oMS_s : @aMS = oMS := (Classical.choose_spec oMS_x).symm
theorem oNeg_x : ∃ f, f = @aNeg := ⟨_, rfl⟩
noncomputable def oNeg := Classical.choose oNeg_x
theorem oNeg_s : @aNeg = oNeg := (Classical.choose_spec oNeg_x).symm
theorem oIA_x : ∃ f, f = @aIA := ⟨_, rfl⟩
noncomputable def oIA := Classical.choose oIA_x
theorem oIA_s : @aIA = oIA := (Classical.choose_spec oIA_x).symm
theorem oUnp_x : ∃ f, f = @aUnp := ⟨_, rfl⟩
noncomputable def oUnp := Classical.choose oUnp_x
theorem oUnp_s : @aUnp = oUnp := (Classical.choose_spec oUnp_x).symm
theorem opNil_x : ∃ f, f = @apNil := ⟨_, rfl⟩
noncomputable def opNil := Classical.choose opNil_x
theorem opNil_s : @apNil = opNil := (Classical.choose_spec opNil_x).symm
theorem opCons_x : ∃ f, f = @apCons := ⟨_, rfl⟩
noncomputable def opCons := Classical.choose opCons_x
theorem opCons_s : @apCons = opCons := (Classical.choose_spec opCons_x).symm
theorem oDisp_x : ∃ f, f = @aDisp := ⟨_, rfl⟩
noncomputable def oDisp := Classical.choose oDisp_x
theorem oDisp_s : @aDisp = oDisp := (Classical.choose_spec oDisp_x).symm
theorem oGet_x : ∃ f, f = @aGet := ⟨_, rfl⟩
noncomputable def oGet := Classical.choose oGet_x
theorem oGet_s : @aGet = oGet := (Classical.choose_spec oGet_x).symm
theorem oTab_x : ∃ f, f = @aTab := ⟨_, rfl⟩
noncomputable def oTab := Classical.choose oTab_x
theorem oTab_s : @aTab = oTab := (Classical.choose_spec oTab_x).symm
theorem oT1_x : ∃ f, f = @aT1 := ⟨_, rfl⟩
noncomputable def oT1 := Classical.choose oT1_x
theorem oT1_s : @aT1 = oT1 := (Classical.choose_spec oT1_x).symm
theorem oTc_x : ∃ f, f = @aTc := ⟨_, rfl⟩
noncomputable def oTc := Classical.choose oTc_x
theorem oTc_s : @aTc = oTc := (Classical.choose_spec oTc_x).symm
theorem oCallT_x : ∃ f, f = @aCallT := ⟨_, rfl⟩
noncomputable def oCallT := Classical.choose oCallT_x
theorem oCallT_s : @aCallT = oCallT := (Classical.choose_spec oCallT_x).symm
theorem oZip_x : ∃ f, f = @aZip := ⟨_, rfl⟩
noncomputable def oZip := Classical.choose oZip_x
theorem oZip_s : @aZip = oZip := (Classical.choose_spec oZip_x).symm
theorem oEnum_x : ∃ f, f = @aEnum := ⟨_, rfl⟩
noncomputable def oEnum := Classical.choose oEnum_x
theorem oEnum_s : @aEnum = oEnum := (Classical.choose_spec oEnum_x).symm
theorem oPar_x : ∃ f, f = @aPar := ⟨_, rfl⟩
noncomputable def oPar := Classical.choose oPar_x
theorem oPar_s : @aPar = oPar := (Classical.choose_spec oPar_x).symm
theorem oV_e {a : AX} {E : XP} {fs : Fs} {Q : Vx → Fs → Prop} : oV a E fs Q = (a E fs (kV Q)) := by
  rw [← oV_s]
  rfl
theorem oD_e {a : AX} {E : XP} {fs : Fs} {Q : D → Fs → Prop} : oD a E fs Q = (a E fs (kD Q)) := by
  rw [← oD_s]
  rfl
theorem oOp_e {ar : AR2} {a b : AX} {E : XP} {fs : Fs} {Q : Rx → Fs → Prop} : oOp ar a b E fs Q = (oV a E fs (kOp1 ar b E Q)) := by
  rw [← oOp_s, ← oV_s]
  rfl
theorem oCB_e {ar : ARn} {a : AVs} {E : XP} {fs : Fs} {Q : Rx → Fs → Prop} : oCB ar a E fs Q = (a E fs (kCB ar Q)) := by
  rw [← oCB_s]
  rfl
theorem oVar_e {i : Nat} {u0 : XP} {fs : Fs} {Q : Rx → Fs → Prop} : oVar i u0 fs Q = (match fs[i]? with
  | some (.dat d) => Q (.dt d) fs
  | some (.own _ d) => Q (.sl i) fs
  | _ => False) := by
  rw [← oVar_s]
  rfl
theorem oC_e {d : D} {u0 : XP} {fs : Fs} {Q : Rx → Fs → Prop} : oC d u0 fs Q = (Q (.dt d) fs) := by
  rw [← oC_s]
  rfl
theorem oTup_e {a : AL} {E : XP} {fs : Fs} {Q : Rx → Fs → Prop} : oTup a E fs Q = (a E fs (kTup Q)) := by
  rw [← oTup_s]
  rfl
theorem oLst_e {a : AL} {E : XP} {fs : Fs} {Q : Rx → Fs → Prop} : oLst a E fs Q = (a E fs (kLst Q)) := by
  rw [← oLst_s]
  rfl
theorem oTr_e {a : AX} {E : XP} {fs : Fs} {Q : Bool → Fs → Prop} : oTr a E fs Q = (oV a E fs (kTr Q)) := by
  rw [← oTr_s, ← oV_s]
  rfl
theorem oNotT_e {t : AT} {E : XP} {fs : Fs} {Q : Bool → Fs → Prop} : oNotT t E fs Q = (t E fs (kNot Q)) := by
  rw [← oNotT_s]
  rfl
theorem oAndT_e {t u : AT} {E : XP} {fs : Fs} {Q : Bool → Fs → Prop} : oAndT t u E fs Q = (t E fs (kAnd u E Q)) := by
  rw [← oAndT_s]
  rfl
theorem oOrT_e {t u : AT} {E : XP} {fs : Fs} {Q : Bool → Fs → Prop} : oOrT t u E fs Q = (t E fs (kOr u E Q)) := by
  rw [← oOrT_s]
  rfl
theorem oBl_e {a : AX} {E : XP} {fs : Fs} {Q : Bool → Fs → Prop} : oBl a E fs Q = (a E fs (kBl Q)) := by
  rw [← oBl_s]
  rfl
theorem oIfE_e {t : AT} {a b : AX} {E : XP} {fs : Fs} {Q : Rx → Fs → Prop} : oIfE t a b E fs Q = (t E fs (kIfE a b E Q)) := by
  rw [← oIfE_s]
  rfl
theorem oAndV_e {a b : AX} {E : XP} {fs : Fs} {Q : Rx → Fs → Prop} : oAndV a b E fs Q = (oV a E fs (kAndV b E Q)) := by
  rw [← oAndV_s, ← oV_s]
  rfl
theorem oOrV_e {a b : AX} {E : XP} {fs : Fs} {Q : Rx → Fs → Prop} : oOrV a b E fs Q = (oV a E fs (kOrV b E Q)) := by
  rw [← oOrV_s, ← oV_s]
  rfl
theorem oNotV_e {a : AX} {E : XP} {fs : Fs} {Q : Rx → Fs → Prop} : oNotV a E fs Q = (oV a E fs (kNotV Q)) := by
  rw [← oNotV_s, ← oV_s]
  rfl
theorem oSeq_e {a b : AS} {E : XP} {A : AEnds} {fs : Fs} : oSeq a b E A fs = (a E { nx := b E A, rt := A.rt, bk := A.bk, ct := A.ct } fs) := by
  rw [← oSeq_s]
  rfl
theorem oNext_e {u0 : XP} {A : AEnds} {fs : Fs} : oNext u0 A fs = (A.nx fs) := by
  rw [← oNext_s]
  rfl
theorem oDrop_e {a : AX} {E : XP} {A : AEnds} {fs : Fs} : oDrop a E A fs = (a E fs (kDrop A)) := by
  rw [← oDrop_s]
  rfl
theorem oIf_e {t : AT} {a b : AS} {E : XP} {A : AEnds} {fs : Fs} : oIf t a b E A fs = (t E fs (kIf a b E A)) := by
  rw [← oIf_s]
  rfl
theorem oRet_e {a : AX} {E : XP} {A : AEnds} {fs : Fs} : oRet a E A fs = (a E fs (kRet A)) := by
  rw [← oRet_s]
  rfl
theorem oRetD_e {a : AX} {E : XP} {A : AEnds} {fs : Fs} : oRetD a E A fs = (oD a E fs (kRetD A)) := by
  rw [← oRetD_s, ← oD_s]
  rfl
theorem oRetN_e {u0 : XP} {A : AEnds} {fs : Fs} : oRetN u0 A fs = (A.rt (.dat .non) fs) := by
  rw [← oRetN_s]
  rfl
theorem oBreak_e {u0 : XP} {A : AEnds} {fs : Fs} : oBreak u0 A fs = (A.bk fs) := by
  rw [← oBreak_s]
  rfl
theorem oCont_e {u0 : XP} {A : AEnds} {fs : Fs} : oCont u0 A fs = (A.ct fs) := by
  rw [← oCont_s]
  rfl
theorem oSet_e {i : Nat} {a : AX} {E : XP} {A : AEnds} {fs : Fs} : oSet i a E A fs = (oD a E fs (kSet i A)) := by
  rw [← oSet_s, ← oD_s]
  rfl
theorem oSetO_e {i : Nat} {a : AX} {E : XP} {A : AEnds} {fs : Fs} : oSetO i a E A fs = (a E fs (kSetO i A)) := by
  rw [← oSetO_s]
  rfl
theorem oWhile_e {t : AT} {b : AS} {E : XP} {A : AEnds} {fs : Fs} : oWhile t b E A fs = (∃ n, whileN t b E A n fs) := by
  rw [← oWhile_s]
  rfl
theorem ogName_e {i : Nat} {d : D} {fs : Fs} {Q : Fs → Prop} : ogName i d fs Q = (free? fs i ∧ Q (fs.set i (.dat d))) := by
  rw [← ogName_s]
  rfl
theorem oIL_e {a : AX} {E : XP} {fs : Fs} {Q : List D → Fs → Prop} : oIL a E fs Q = (oD a E fs fun d fs1 => match d with
  | .lst ds => Q ds fs1
  | _ => False) := by
  rw [← oIL_s, ← oD_s]
  rfl
theorem oIT_e {a : AX} {E : XP} {fs : Fs} {Q : List D → Fs → Prop} : oIT a E fs Q = (oD a E fs fun d fs1 => match d with
  | .tup ds => Q ds fs1
  | _ => False) := by
  rw [← oIT_s, ← oD_s]
  rfl
theorem oIS_e {a : AX} {E : XP} {fs : Fs} {Q : List D → Fs → Prop} : oIS a E fs Q = (oD a E fs fun d fs1 => match d with
  | .str x => Q (x.cps.toList.map fun c => .str ⟨#[c]⟩) fs1
  | _ => False) := by
  rw [← oIS_s, ← oD_s]
  rfl
theorem oIR1_e {a : AVs} {E : XP} {fs : Fs} {Q : List D → Fs → Prop} : oIR1 a E fs Q = (a E fs (kIR1 Q)) := by
  rw [← oIR1_s]
  rfl
theorem oIR2_e {a : AVs} {E : XP} {fs : Fs} {Q : List D → Fs → Prop} : oIR2 a E fs Q = (a E fs (kIR2 Q)) := by
  rw [← oIR2_s]
  rfl
theorem oFor_e {i : AI} {g : AG} {b : AS} {E : XP} {A : AEnds} {fs : Fs} : oFor i g b E A fs = (i E fs (forL g b E A)) := by
  rw [← oFor_s]
  rfl
theorem oComp_e {i : AI} {g : AG} {t : AT} {e : AX} {vs : List Nat} {E : XP} {fs : Fs} {Q : Rx → Fs → Prop} : oComp i g t e vs E fs Q = (i E fs (kComp g t e vs Q)) := by
  rw [← oComp_s]
  rfl
theorem oYes_e {u0 : XP} {fs : Fs} {Q : Bool → Fs → Prop} : oYes u0 fs Q = (Q true fs) := by
  rw [← oYes_s]
  rfl
theorem oClr_e {vs : List Nat} {b : AS} {E : XP} {A : AEnds} {fs : Fs} : oClr vs b E A fs = (b E { nx := kClr vs A.nx, rt := A.rt, bk := A.bk, ct := kClr vs A.ct } fs) := by
  rw [← oClr_s]
  rfl
theorem oCall_e {sp : ASp} {a : AVs} {E : XP} {fs : Fs} {Q : Rx → Fs → Prop} : oCall sp a E fs Q = (a E fs (kCall sp E Q)) := by
  rw [← oCall_s]
  rfl
theorem oON_e {u0 : XP} {fs : Fs} {Q : Option Int → Fs → Prop} : oON u0 fs Q = (Q none fs) := by
  rw [← oON_s]
  rfl
theorem oOS_e {a : AX} {E : XP} {fs : Fs} {Q : Option Int → Fs → Prop} : oOS a E fs Q = (a E fs (kOS Q)) := by
  rw [← oOS_s]
  rfl
theorem oSl_e {a : AX} {l h : AO} {E : XP} {fs : Fs} {Q : Rx → Fs → Prop} : oSl a l h E fs Q = (oV a E fs (kSl1 l h E Q)) := by
  rw [← oSl_s, ← oV_s]
  rfl
theorem oIsi_e {T : Ty} {a : AX} {E : XP} {fs : Fs} {Q : Rx → Fs → Prop} : oIsi T a E fs Q = (oV a E fs (kIsi T Q)) := by
  rw [← oIsi_s, ← oV_s]
  rfl
theorem oMut_e {T : String} {i : Nat} {am : AM} {a : AL} {E : XP} {fs : Fs} {Q : Rx → Fs → Prop} : oMut T i am a E fs Q = (match fs[i]? with
  | some (.own _ d0) => isTy T d0 = true ∧ a E fs (kMut i am Q)
  | _ => False) := by
  rw [← oMut_s]
  rfl
theorem oMut0_e {T : String} {i : Nat} {am : AM} {u0 : XP} {fs : Fs} {Q : Rx → Fs → Prop} : oMut0 T i am u0 fs Q = (match fs[i]? with
  | some (.own p d) => isTy T d = true ∧ am d [] (kM2 i p fs Q)
  | _ => False) := by
  rw [← oMut0_s]
  rfl
theorem oPut_e {i : Nat} {ak av : AX} {E : XP} {A : AEnds} {fs : Fs} : oPut i ak av E A fs = (oD av E fs (kP1 i ak E A)) := by
  rw [← oPut_s, ← oD_s]
  rfl
theorem oAug_e {i : Nat} {ar : AR2} {a : AX} {E : XP} {A : AEnds} {fs : Fs} : oAug i ar a E A fs = (match fs[i]? with
  | some (.dat d) => oV a E fs (kA1 i ar d A)
  | _ => False) := by
  rw [← oAug_s, ← oV_s]
  rfl
theorem oMS_e {f : Str → List D → (Zx → Prop) → Prop} {a : AX} {as : AVs} {E : XP} {fs : Fs} {Q : Rx → Fs → Prop} : oMS f a as E fs Q = (oV a E fs (kMS1 f as E Q)) := by
  rw [← oMS_s, ← oV_s]
  rfl
theorem oNeg_e {a : AX} {E : XP} {fs : Fs} {Q : Rx → Fs → Prop} : oNeg a E fs Q = (a E fs (kNeg Q)) := by
  rw [← oNeg_s]
  rfl
theorem oIA_e {a : AX} {E : XP} {fs : Fs} {Q : List D → Fs → Prop} : oIA a E fs Q = (oD a E fs (kIA Q)) := by
  rw [← oIA_s, ← oD_s]
  rfl
theorem oUnp_e {a : AX} {g : AG} {E : XP} {A : AEnds} {fs : Fs} : oUnp a g E A fs = (oD a E fs (kUnp g A)) := by
  rw [← oUnp_s, ← oD_s]
  rfl
theorem opNil_e {E : XP} {fs : Fs} {Q : List (D × D) → Fs → Prop} : opNil E fs Q = (Q [] fs) := by
  rw [← opNil_s]
  rfl
theorem opCons_e {a b : AX} {r : AP} {E : XP} {fs : Fs} {Q : List (D × D) → Fs → Prop} : opCons a b r E fs Q = (oD a E fs (kPa b r E Q)) := by
  rw [← opCons_s, ← oD_s]
  rfl
theorem oDisp_e {a : AP} {E : XP} {fs : Fs} {Q : Rx → Fs → Prop} : oDisp a E fs Q = (a X0 fs (kDisp Q)) := by
  rw [← oDisp_s]
  rfl
theorem oGet_e {a b c : AX} {E : XP} {fs : Fs} {Q : Rx → Fs → Prop} : oGet a b c E fs Q = (oV a E fs (kG1 b c E Q)) := by
  rw [← oGet_s, ← oV_s]
  rfl
theorem oTab_e {tab : List (Str × D)} {a : AX} {E : XP} {fs : Fs} {Q : Rx → Fs → Prop} : oTab tab a E fs Q = (oD a E fs (kTab tab Q)) := by
  rw [← oTab_s, ← oD_s]
  rfl
theorem oT1_e {b : AX} {E : XP} {fs : Fs} {Q : List Vx → Option D → Fs → Prop} : oT1 b E fs Q = (b E fs (kT1 Q)) := by
  rw [← oT1_s]
  rfl
theorem oTc_e {a : AX} {r : AVT} {E : XP} {fs : Fs} {Q : List Vx → Option D → Fs → Prop} : oTc a r E fs Q = (oV a E fs (kTc r E Q)) := by
  rw [← oTc_s, ← oV_s]
  rfl
theorem oCallT_e {sp : ASp} {a : AVT} {E : XP} {fs : Fs} {Q : Rx → Fs → Prop} : oCallT sp a E fs Q = (a E fs (kT2 sp E Q)) := by
  rw [← oCallT_s]
  rfl
theorem oZip_e {a : AL} {E : XP} {fs : Fs} {Q : List D → Fs → Prop} : oZip a E fs Q = (a E fs (kZi Q)) := by
  rw [← oZip_s]
  rfl
theorem oEnum_e {a : AL} {E : XP} {fs : Fs} {Q : List D → Fs → Prop} : oEnum a E fs Q = (a E fs (kEn Q)) := by
  rw [← oEnum_s]
  rfl
theorem oPar_e {i j : Nat} {a : AL} {E : XP} {A : AEnds} {fs : Fs} : oPar i j a E A fs = (a E fs (kPar i j A)) := by
  rw [← oPar_s]
  rfl
theorem oVs_nil {E : XP} {fs : Fs} {Q : List Vx → Fs → Prop} : oVs [] E fs Q = Q [] fs := by rw [← oVs_s]; rfl
theorem oVs_cons {E : XP} {fs : Fs} {Q : List Vx → Fs → Prop} {a : AX} {r : List AX} : oVs (a :: r) E fs Q = oV a E fs (kVs (oVs r) E Q) := by rw [← oVs_s, ← oV_s]; rfl
theorem oLs_nil {E : XP} {fs : Fs} {Q : List D → Fs → Prop} : oLs [] E fs Q = Q [] fs := by rw [← oLs_s]; rfl
theorem oLs_cons {E : XP} {fs : Fs} {Q : List D → Fs → Prop} {a : AX} {r : List AX} : oLs (a :: r) E fs Q = oD a E fs (kVs (oLs r) E Q) := by rw [← oLs_s, ← oD_s]; rfl
theorem ogGo_x : ∃ f, f = @agTup.go := ⟨_, rfl⟩
noncomputable def ogGo := Classical.choose ogGo_x
theorem ogGo_s : @agTup.go = ogGo := (Classical.choose_spec ogGo_x).symm
theorem ogTup_e {gs : List AG} {ds : List D} {fs : Fs} {Q : Fs → Prop} : ogTup gs (.tup ds) fs Q = (ds.length = gs.length ∧ ogGo gs ds fs Q) := by rw [← ogTup_s, ← ogGo_s]; rfl
theorem ogGo_nil {ds : List D} {fs : Fs} {Q : Fs → Prop} : ogGo [] ds fs Q = Q fs := by rw [← ogGo_s]; cases ds <;> rfl
def kGo (gs : List AG) (ds : List D) (Q : Fs → Prop) (fs1 : Fs) : Prop := ogGo gs ds fs1 Q
theorem ogGo_cons {g : AG} {gs : List AG} {d : D} {ds : List D} {fs : Fs} {Q : Fs → Prop} : ogGo (g :: gs) (d :: ds) fs Q = g d fs (kGo gs ds Q) := by
  unfold kGo
  rw [← ogGo_s]; rfl
theorem oSeqC_x : ∃ f, f = @aSeqC := ⟨_, rfl⟩
noncomputable def oSeqC := Classical.choose oSeqC_x
theorem oSeqC_s : @aSeqC = oSeqC := (Classical.choose_spec oSeqC_x).symm
theorem o_while_by {t : AT} {b : AS} {E : XP} {A : AEnds} {fs : Fs} (I : Nat → Fs → Prop) (h0 : ∃ m, I m fs)
    (step : ∀ (R : Fs → Prop) m fs, (∀ m' fs', m' < m → I m' fs' → R fs') → I m fs → t E fs (kWh b E A R)) : oWhile t b E A fs := by
  rw [← oWhile_s]; exact while_by I h0 step
theorem o_cut_by {a b : AS} {E : XP} {A : AEnds} {fs : Fs} (I : Fs → Prop) (h1 : ∀ R : Fs → Prop, (∀ fs', I fs' → R fs') → a E { nx := R, rt := A.rt, bk := A.bk, ct := A.ct } fs) (h2 : ∀ fs', I fs' → b E A fs') : oSeqC a b E A fs := by
  rw [← oSeqC_s]; exact cut_by I h1 h2
end G

namespace G
open PySem PySem.Spec PyProof.Rows L2
/-! reckoning over written lists and tables -/
theorem inD_nil {d : D} : inD d [] = false := rfl
theorem inD_ss {x y : Str} {r : List D} : inD (.str x) (.str y :: r) = (decide (y = x) || inD (.str x) r) := by
  show (eqV (.str y) (.str x) || inD (.str x) r) = _
  congr 1
theorem lookK_cons {k a : Key} {ks : List Key} {d : D} {ds : List D} : lookK k (a :: ks) (d :: ds) = if a = k then some d else lookK k ks ds := rfl
theorem lookK_nil {k : Key} {ds : List D} : lookK k [] ds = none := rfl
theorem memK_nil {k : Key} : memK k [] = false := rfl
theorem memK_cons {k a : Key} {ks : List Key} : memK k (a :: ks) = (decide (a = k) || memK k ks) := rfl
def ndB : List Key → Bool
  | [] => true
  | k :: r => !memK k r && ndB r
theorem ndB_nil : ndB [] = true := rfl
theorem ndB_cons {k : Key} {r : List Key} : ndB (k :: r) = (!memK k r && ndB r) := rfl
theorem memK_iff {k : Key} : ∀ {ks : List Key}, memK k ks = true ↔ k ∈ ks
  | [] => by simp [memK_nil]
  | a :: ks => by
    rw [memK_cons, Bool.or_eq_true, decide_eq_true_eq, memK_iff, List.mem_cons]
    exact ⟨fun h => h.imp Eq.symm id, fun h => h.imp Eq.symm id⟩
theorem ndB_iff : ∀ {ks : List Key}, ndB ks = true ↔ ks.Nodup
  | [] => by simp [ndB_nil]
  | k :: r => by
    rw [ndB_cons, Bool.and_eq_true, ndB_iff, List.nodup_cons, Bool.not_eq_true', ← Bool.not_eq_true, memK_iff]
theorem ndK_e {ks : List Key} : ndK ks = (ndB ks && decide (ks.length ≤ 15)) := by
  rw [Bool.eq_iff_iff, Bool.and_eq_true, ndB_iff, decide_eq_true_eq]
  exact decide_eq_true_iff
theorem np_of_eq {s : Sl} (h : np s) : np s = True := eq_true h
theorem FnC.imp {P : Program} {w : World} {K : PySem.W.Frag} {mg : Str → Option Value} {base : Heap} {CX : CXT} {k : Nat} {x : Str} {sp sp' : ASp} (h : FnC P w K mg base CX k x sp)
    (i : ∀ args Q E, sp' args Q E → sp args Q E) : FnC P w K mg base CX k x sp' := by
  have key : ∀ vs H Q E, spOf K sp' vs H Q E → spOf K sp vs H Q E := fun vs H Q E ⟨F, a, pa, Q', E', h0, h, r⟩ => ⟨F, a, pa, Q', E', h0, i _ _ _ h, r⟩
  obtain ⟨f, fd, ps, h1, h2⟩ := h.ex
  obtain ⟨a, b⟩ := h1
  exact ⟨f, fd, ps, ⟨fun vs H Q E h => a vs H Q E (key vs H Q E h), fun A outer s H args us vs Q E hr he hb hv h => b A outer s H args us vs Q E hr he hb hv (key vs H Q E h)⟩, h2⟩
theorem enumD_some : ∀ {k : Nat} {ds : List D} {i : Nat} {d : D}, (enumD k ds)[i]? = some d → ∃ x, ds[i]? = some x ∧ d = .tup [.int ((k + i : Nat) : Int), x]
  | k, [], i, d, h => by simp [enumD] at h
  | k, x :: r, 0, d, h => by cases h; exact ⟨x, rfl, rfl⟩
  | k, x :: r, i + 1, d, h => by
    rw [enumD, List.getElem?_cons_succ] at h
    obtain ⟨y, h1, rfl⟩ := enumD_some h
    exact ⟨y, by simpa using h1, by rw [show k + 1 + i = k + (i + 1) by omega]⟩
/-- a number put ahead of a tuple -/
def consF (i : D) : D → Option D
  | .tup xs => some (.tup (i :: xs))
  | _ => none
theorem forL_nil {g : AG} {b : AS} {E : XP} {A : AEnds} {fs : Fs} : forL g b E A [] fs = A.nx fs := rfl
theorem forL_cons {g : AG} {b : AS} {E : XP} {A : AEnds} {d : D} {ds : List D} {fs : Fs} : forL g b E A (d :: ds) fs = g d fs (kFor b E A (forL g b E A ds)) := rfl
theorem at6 {α : Type} {x0 x1 x2 x3 x4 x5 x6 : α} {r : List α} : atI (x0 :: x1 :: x2 :: x3 :: x4 :: x5 :: x6 :: r) 6 = some x6 := atI_nat (j := 6) rfl
theorem at7 {α : Type} {x0 x1 x2 x3 x4 x5 x6 x7 : α} {r : List α} : atI (x0 :: x1 :: x2 :: x3 :: x4 :: x5 :: x6 :: x7 :: r) 7 = some x7 := atI_nat (j := 7) rfl
theorem at8 {α : Type} {x0 x1 x2 x3 x4 x5 x6 x7 x8 : α} {r : List α} : atI (x0 :: x1 :: x2 :: x3 :: x4 :: x5 :: x6 :: x7 :: x8 :: r) 8 = some x8 := atI_nat (j := 8) rfl
theorem at9 {α : Type} {x0 x1 x2 x3 x4 x5 x6 x7 x8 x9 : α} {r : List α} : atI (x0 :: x1 :: x2 :: x3 :: x4 :: x5 :: x6 :: x7 :: x8 :: x9 :: r) 9 = some x9 := atI_nat (j := 9) rfl
theorem at10 {α : Type} {x0 x1 x2 x3 x4 x5 x6 x7 x8 x9 x10 : α} {r : List α} : atI (x0 :: x1 :: x2 :: x3 :: x4 :: x5 :: x6 :: x7 :: x8 :: x9 :: x10 :: r) 10 = some x10 := atI_nat (j := 10) rfl
theorem at11 {α : Type} {x0 x1 x2 x3 x4 x5 x6 x7 x8 x9 x10 x11 : α} {r : List α} : atI (x0 :: x1 :: x2 :: x3 :: x4 :: x5 :: x6 :: x7 :: x8 :: x9 :: x10 :: x11 :: r) 11 = some x11 := atI_nat (j := 11) rfl
theorem at12 {α : Type} {x0 x1 x2 x3 x4 x5 x6 x7 x8 x9 x10 x11 x12 : α} {r : List α} : atI (x0 :: x1 :: x2 :: x3 :: x4 :: x5 :: x6 :: x7 :: x8 :: x9 :: x10 :: x11 :: x12 :: r) 12 = some x12 := atI_nat (j := 12) rfl
theorem at13 {α : Type} {x0 x1 x2 x3 x4 x5 x6 x7 x8 x9 x10 x11 x12 x13 : α} {r : List α} : atI (x0 :: x1 :: x2 :: x3 :: x4 :: x5 :: x6 :: x7 :: x8 :: x9 :: x10 :: x11 :: x12 :: x13 :: r) 13 = some x13 := atI_nat (j := 13) rfl
theorem at14 {α : Type} {x0 x1 x2 x3 x4 x5 x6 x7 x8 x9 x10 x11 x12 x13 x14 : α} {r : List α} : atI (x0 :: x1 :: x2 :: x3 :: x4 :: x5 :: x6 :: x7 :: x8 :: x9 :: x10 :: x11 :: x12 :: x13 :: x14 :: r) 14 = some x14 := atI_nat (j := 14) rfl
theorem at15 {α : Type} {x0 x1 x2 x3 x4 x5 x6 x7 x8 x9 x10 x11 x12 x13 x14 x15 : α} {r : List α} : atI (x0 :: x1 :: x2 :: x3 :: x4 :: x5 :: x6 :: x7 :: x8 :: x9 :: x10 :: x11 :: x12 :: x13 :: x14 :: x15 :: r) 15 = some x15 := atI_nat (j := 15) rfl
theorem at16 {α : Type} {x0 x1 x2 x3 x4 x5 x6 x7 x8 x9 x10 x11 x12 x13 x14 x15 x16 : α} {r : List α} : atI (x0 :: x1 :: x2 :: x3 :: x4 :: x5 :: x6 :: x7 :: x8 :: x9 :: x10 :: x11 :: x12 :: x13 :: x14 :: x15 :: x16 :: r) 16 = some x16 := atI_nat (j := 16) rfl
theorem at17 {α : Type} {x0 x1 x2 x3 x4 x5 x6 x7 x8 x9 x10 x11 x12 x13 x14 x15 x16 x17 : α} {r : List α} : atI (x0 :: x1 :: x2 :: x3 :: x4 :: x5 :: x6 :: x7 :: x8 :: x9 :: x10 :: x11 :: x12 :: x13 :: x14 :: x15 :: x16 :: x17 :: r) 17 = some x17 := atI_nat (j := 17) rfl
end G

namespace G
open PySem PySem.Spec PyProof.Rows L2
/-! sorted(xs) of texts, sorted(d) of a dict of texts -/
def strLe (a b : Str) : Prop := a.cps.toList ≤ b.cps.toList
theorem strLe_iff {a b : Str} : ltCps b.cps.toList a.cps.toList = false ↔ strLe a b := by
  rw [ltCps_eq]
  unfold strLe
  rw [decide_eq_false_iff_not, List.not_lt]
theorem strLe_trans {a b c : Str} (h : strLe a b) (k : strLe b c) : strLe a c := List.le_trans h k
theorem strLe_antisymm {a b : Str} (h : strLe a b) (k : strLe b a) : a = b := by
  have := List.le_antisymm h k
  cases a; cases b
  congr 1
  exact Array.toList_inj.mp this
theorem rising_pw : ∀ {r : List Str} {p : Str}, risingS p r = true → (p :: r).Pairwise strLe
  | [], p, _ => List.pairwise_singleton _ _
  | x :: r, p, h => by
    unfold risingS at h
    rw [Bool.and_eq_true, Bool.not_eq_true', strLe_iff] at h
    have ih := rising_pw h.2
    refine List.pairwise_cons.mpr ⟨fun y hy => ?_, ih⟩
    rcases List.mem_cons.mp hy with rfl | hy
    · exact h.1
    · exact strLe_trans h.1 ((List.pairwise_cons.mp ih).1 y hy)
theorem sortedS_pw : ∀ {r : List Str}, sortedS r = true → r.Pairwise strLe
  | [], _ => .nil
  | x :: r, h => rising_pw h
theorem pw_unique : ∀ {a b : List Str}, a.Perm b → a.Pairwise strLe → b.Pairwise strLe → a = b
  | [], b, h, _, _ => (List.nil_perm.mp h).symm
  | x :: a, [], h, _, _ => by have := h.length_eq; simp at this
  | x :: a, y :: b, h, ha, hb => by
    have ha' := List.pairwise_cons.mp ha
    have hb' := List.pairwise_cons.mp hb
    have e : x = y := by
      have h1 : x ∈ y :: b := h.mem_iff.mp List.mem_cons_self
      have h2 : y ∈ x :: a := h.mem_iff.mpr List.mem_cons_self
      rcases List.mem_cons.mp h1 with h1 | h1
      · exact h1
      · rcases List.mem_cons.mp h2 with h2 | h2
        · exact h2.symm
        · exact strLe_antisymm (ha'.1 y h2) (hb'.1 x h1)
    subst e
    rw [pw_unique (List.Perm.cons_inv h) ha'.2 hb'.2]
theorem sorted_unique {a b : List Str} (h : a.Perm b) (ha : sortedS a = true) (hb : sortedS b = true) : a = b := pw_unique h (sortedS_pw ha) (sortedS_pw hb)
theorem callr_or {X : Cx} {f : Value} {r1 r2 : List V → Hp → VK → Prop} (h1 : CallR X f r1) (h2 : CallR X f r2) : CallR X f (fun xs H Q => r1 xs H Q ∨ r2 xs H Q) := fun pins s σ H xs us Q I r h => by
  rcases h with h | h
  · exact h1 pins s σ H xs us Q I r h
  · exact h2 pins s σ H xs us Q I r h
def faSorted (d : D) (Q : Zx → Prop) : Prop := match d with
  | .lst ds => ∃ zs : List Str, ds = zs.map D.str ∧ zs.length < 64 ∧ ∀ ys : List Str, ys.Perm zs → sortedS ys = true → Q (.fr (.lst (ys.map D.str)))
  | .dct ks _ => ∃ zs : List Str, ks = zs.map Sum.inr ∧ zs.length < 64 ∧ ∀ ys : List Str, ys.Perm zs → sortedS ys = true → Q (.fr (.lst (ys.map D.str)))
  | _ => False
def rSortD : List V → Hp → VK → Prop := fun xs H Q => ∃ (a : Addr) (kvs : List (Key × V)) (ks : List Str), xs = [.ref a] ∧ Rd H a (.dK kvs) ∧ kvs.map (·.1) = ks.map Sum.inr ∧ ks.length < 64 ∧
    ∀ ys p, ys.Perm ks → sortedS ys = true → H p = none → Q (.ref p) (upd H p (.lst (ys.map V.str)))
theorem call_sortA {X : Cx} (hc : X.calm = true) : CallR X (.builtin "sorted") (fun xs H Q => rSortedS X.K xs H Q ∨ rSortD xs H Q) := callr_or cr_sortedS (call_sortedD hc)
theorem reps_strs {K : PySem.W.Frag} {W : Wd} : ∀ {vs : List V} {zs : List Str}, Reps K W vs (zs.map D.str) → vs = zs.map V.str
  | [], [], _ => rfl
  | v :: vs, z :: zs, h => by
    cases h with
    | cons h r => cases h; rw [reps_strs r]; rfl
  | [], _ :: _, h => by cases h
  | _ :: _, [], h => by cases h
theorem opn_sortA {K : PySem.W.Frag} : Opn K (fun xs H Q => rSortedS K xs H Q ∨ rSortD xs H Q) (ar1 faSorted) := opn1 fun W v d Q Q' dF hv h k => by
  have fin : ∀ (ys : List Str) (p : Addr), W.H p = none → Q' (.fr (.lst (ys.map D.str))) → Q (.ref p) (upd W.H p (.lst (ys.map V.str))) := fun ys p hp q =>
    k (.ref p) (.fr (.lst (ys.map D.str))) _ (Exs.new hp) ⟨p, rfl, hp, fun f => dF p f hp, _, upd_same, Reps.strs ys⟩ q
  unfold faSorted at h
  split at h
  · rename_i ds
    obtain ⟨zs, rfl, hl, q⟩ := h
    obtain ⟨a, vs, rfl, hs, r⟩ := hv.lst
    rw [reps_strs r] at hs
    exact .inl ⟨a, zs, rfl, hs, hl, fun ys p h1 h2 h3 => fin ys p h3 (q ys h1 h2)⟩
  · rename_i ks vs
    obtain ⟨zs, rfl, hl, q⟩ := h
    obtain ⟨a, kvs, rfl, hs, e, r⟩ := hv.dct
    exact .inr ⟨a, kvs, zs, rfl, .inl hs, e, hl, fun ys p h1 h2 h3 => fin ys p h3 (q ys h1 h2)⟩
  · exact h.elim
theorem boot_b_sorted : bootBuiltins "sorted" = some (.builtin "sorted") := by decide +kernel
/-! // by a wide number -/
def CDivB (_ j : Int) : Prop := 0 < j ∧ j < 2 ^ 200
theorem op_fdivB {X : Cx} : OpR X (binaryOp .FloorDiv) (rI CDivB fun i j => .int (i / j)) := fun pins s σ H x y v u Q I rx ry ⟨i, j, h1, h2, hc, q⟩ =>
  op_fdivW pins s σ H x y v u Q I rx ry ⟨i, j, h1, h2, ⟨hc.1, by
    have h := hc.2
    have h0 := hc.1
    have h3 : j.natAbs < 2 ^ 200 := by omega
    exact Nat.lt_of_lt_of_le ((Nat.log2_lt (by omega)).mpr h3) (by decide)⟩, q⟩
def arDivB (d e : D) (Q : Zx → Prop) : Prop := arI CDivB (fun i j => .int (i / j)) d e Q
theorem op2_divB {K : PySem.W.Frag} : Op2 K (rI CDivB fun i j => .int (i / j)) arDivB := op2_I fun _ _ _ => .int _
/-! a table of truths: d[k] = True -/
def ddS (ks : List Str) (xs : List Str) : List Str := xs.foldl (fun ks x => if x ∈ ks then ks else ks ++ [x]) ks
theorem ddS_nil {ks : List Str} : ddS ks [] = ks := rfl
theorem ddS_app {ks xs ys : List Str} : ddS ks (xs ++ ys) = ddS (ddS ks xs) ys := List.foldl_append
theorem ddS_one {ks : List Str} {x : Str} : ddS ks [x] = if x ∈ ks then ks else ks ++ [x] := rfl
theorem memK_strs {ks : List Str} {x : Str} : memK (.inr x) (ks.map Sum.inr) = decide (x ∈ ks) := by
  rw [Bool.eq_iff_iff, memK_iff, decide_eq_true_eq, List.mem_map]
  exact ⟨fun ⟨y, h, e⟩ => by cases e; exact h, fun h => ⟨x, h, rfl⟩⟩
theorem repD_same {k : Key} {z : D} {f : Str → Key} : ∀ {ks : List Str}, repD k z (ks.map f) (ks.map fun _ => z) = ks.map fun _ => z
  | [] => rfl
  | a :: ks => by
    have ih := repD_same (k := k) (z := z) (f := f) (ks := ks)
    rw [List.map_cons, List.map_cons]
    unfold repD
    rw [ih]
    split <;> rfl
theorem put_true_ks {ks : List Str} {x : Str} : putKs (.inr x) (ks.map Sum.inr) = (ddS ks [x]).map Sum.inr := by
  unfold putKs
  rw [memK_strs, ddS_one]
  by_cases h : x ∈ ks
  · rw [if_pos h, decide_eq_true h, if_pos rfl]
  · rw [if_neg h, decide_eq_false h, if_neg (by decide), List.map_append]; rfl
theorem put_true_ds {ks : List Str} {x : Str} {z : D} : putDs (.inr x) z (ks.map Sum.inr) (ks.map fun _ => z) = (ddS ks [x]).map fun _ => z := by
  unfold putDs
  rw [memK_strs, ddS_one]
  by_cases h : x ∈ ks
  · rw [if_pos h, decide_eq_true h, if_pos rfl, repD_same]
  · rw [if_neg h, decide_eq_false h, if_neg (by decide), List.map_append]; rfl
theorem ddS_mem {x : Str} : ∀ {xs ks : List Str}, x ∈ ddS ks xs ↔ x ∈ ks ∨ x ∈ xs
  | [], ks => by simp [ddS]
  | y :: xs, ks => by
    show x ∈ ddS (ddS ks [y]) xs ↔ _
    rw [ddS_mem, ddS_one]
    by_cases h : y ∈ ks
    · rw [if_pos h, List.mem_cons]
      exact ⟨fun z => z.elim .inl fun z => .inr (.inr z), fun z => z.elim .inl fun z => z.elim (fun e => .inl (e ▸ h)) .inr⟩
    · rw [if_neg h, List.mem_append, List.mem_singleton, List.mem_cons, or_assoc]
theorem ddS_nodup : ∀ {xs ks : List Str}, ks.Nodup → (ddS ks xs).Nodup
  | [], _, h => h
  | y :: xs, ks, h => by
    show (ddS (ddS ks [y]) xs).Nodup
    refine ddS_nodup ?_
    rw [ddS_one]
    split
    · exact h
    · rename_i hy
      rw [List.nodup_append]
      exact ⟨h, by simp, fun a ha b hb e => by rw [List.mem_singleton] at hb; subst hb; subst e; exact hy ha⟩
theorem nodup_le {α : Type} [DecidableEq α] : ∀ {a b : List α}, a.Nodup → (∀ x ∈ a, x ∈ b) → a.length ≤ b.length
  | [], _, _, _ => Nat.zero_le _
  | x :: a, b, h, s => by
    have h' := List.nodup_cons.mp h
    have hx := s x List.mem_cons_self
    have := nodup_le (a := a) (b := b.erase x) h'.2 fun y hy => (List.mem_erase_of_ne fun e => h'.1 (by rw [← e]; exact hy)).mpr (s y (List.mem_cons_of_mem _ hy))
    rw [List.length_erase_of_mem hx] at this
    have : 0 < b.length := List.length_pos_of_mem hx
    rw [List.length_cons]; omega
theorem inD_strs {x : Str} : ∀ {bs : List Str}, inD (.str x) (bs.map D.str) = decide (x ∈ bs)
  | [] => rfl
  | y :: bs => by
    rw [List.map_cons, inD_ss, inD_strs, Bool.eq_iff_iff, Bool.or_eq_true, decide_eq_true_eq, decide_eq_true_eq, decide_eq_true_eq, List.mem_cons]
    exact ⟨fun h => h.imp Eq.symm id, fun h => h.imp Eq.symm id⟩
theorem ddS_le : ∀ {xs ks : List Str}, ks.length ≤ (ddS ks xs).length
  | [], _ => Nat.le_refl _
  | y :: xs, ks => by
    show _ ≤ (ddS (ddS ks [y]) xs).length
    refine Nat.le_trans ?_ ddS_le
    rw [ddS_one]
    split
    · exact Nat.le_refl _
    · rw [List.length_append]; omega
theorem ddS_take {ks : List Str} {xss : List (List Str)} (i : Nat) : (ddS ks (xss.take i).flatten).length ≤ (ddS ks xss.flatten).length := by
  have : xss.flatten = (xss.take i).flatten ++ (xss.drop i).flatten := by rw [← List.flatten_append, List.take_append_drop]
  rw [this, ddS_app]
  exact ddS_le
theorem putKs_nil {k : Key} : putKs k [] = [k] := rfl
theorem putKs_cons {k a : Key} {ks : List Key} : putKs k (a :: ks) = if memK k (a :: ks) = true then a :: ks else (a :: ks) ++ [k] := rfl
theorem putDs_nil {k : Key} {z : D} : putDs k z [] [] = [z] := rfl
theorem putDs_cons {k a : Key} {z d : D} {ks : List Key} {ds : List D} : putDs k z (a :: ks) (d :: ds) = if memK k (a :: ks) = true then repD k z (a :: ks) (d :: ds) else (d :: ds) ++ [z] := rfl
theorem repD_cons {k a : Key} {z d : D} {ks : List Key} {ds : List D} : repD k z (a :: ks) (d :: ds) = (if a = k then z else d) :: repD k z ks ds := rfl
theorem repD_nil {k : Key} {z : D} : repD k z [] [] = [] := rfl
theorem pow_1029 : CPow 10 29 := ⟨by decide, by decide, by decide⟩
theorem ixN_ok {n : Nat} {i : Int} (h0 : 0 ≤ i) (h : i < n) : ixN n i = some i.toNat := by
  unfold ixN
  rw [if_pos h0, if_pos (by omega)]
theorem num_len (n : Nat) (h : n < 64) : (Str.ofString (toString ((n : Nat) : Int))).length ≤ 2 := by
  have : ∀ n : Fin 64, (Str.ofString (toString ((n.val : Nat) : Int))).length ≤ 2 := by decide +kernel
  exact this ⟨n, h⟩
theorem log_small {n : Nat} (h : n < 1024) : ((n : Int)).natAbs.log2 < 1920 := by
  have : ((n : Int)).natAbs = n := rfl
  rw [this]
  rcases Nat.eq_zero_or_pos n with rfl | hp
  · decide
  · have := (Nat.log2_lt (k := 10) (n := n) (by omega)).mpr (by omega)
    omega
theorem compL_nil {g : AG} {t : AT} {e : AX} {vs : List Nat} {acc : List D} {fs : Fs} {Q : List D → Fs → Prop} : compL g t e vs [] acc fs Q = Q acc fs := rfl
theorem compL_cons {g : AG} {t : AT} {e : AX} {vs : List Nat} {d : D} {ds acc : List D} {fs : Fs} {Q : List D → Fs → Prop} : compL g t e vs (d :: ds) acc fs Q = g d fs (kC1 t e vs (compL g t e vs ds) acc Q) := rfl
end G

set_option maxHeartbeats 4000000
namespace G
open PySem PySem.Spec PyProof.Rows L2 PySem.Froz
/-! sets of texts that can be walked -/
structure TxR (P : Program) (w : World) (D : SD) (l : List Str) : Prop where
  ok : TxOk P w D l
  nd : l.Nodup
  ris : Ris D.2.2.place.toList
  led : w.params.followText "set-order" = true ∨ D.2.2.led = true
theorem tail_ris {ep : Nat} {es : Array (Int × Value)} {t : SetTable} {b : Bool} (r : Ris t.place.toList) : Ris (tailTx ep es t b).2.2.place.toList := by
  unfold tailTx
  split
  · exact relayAll_ris _ _ _
  · exact r
theorem tail_led {ep : Nat} {es : Array (Int × Value)} {t : SetTable} {b : Bool} : (tailTx ep es t b).2.2.led = t.led := by
  unfold tailTx
  split
  · exact relayAll_led _ _ _
  · rfl
theorem TxR.add {P : Program} {w : World} {D : SD} {l : List Str} {k : Str} (u : Tok) (F : TxR P w D l) (hk : k ∉ l) : TxR P w (addTx (hashStr w k) (.str k u) D) (k :: l) where
  ok := add_ok u F.ok
  nd := List.nodup_cons.mpr ⟨hk, F.nd⟩
  ris := by
    unfold addTx
    have r1 := layNew_ris D.2.2 D.1 (hashStr w k) (.str k u) F.ris
    refine tail_ris ?_
    split
    · exact r1
    · exact r1
  led := F.led.imp id fun z => by
    unfold addTx
    rw [tail_led]
    have e1 := layNew_led D.2.2 D.1 (hashStr w k) (.str k u)
    split
    · exact e1.trans z
    · exact e1.trans z
section
variable {P : Program} {w : World} {A : Around} {E : Value → Shared → Prop} {s : Shared}
/-- a text that is in it comes again -/
theorem dup_x {a : Addr} {T : String} {D : SD} {l : List Str} {k : Str} {u : Tok} {Q : Bool → Shared → Prop} (at' : s.heap.get? a = some (sObj T D)) (F : TxOk P w D l) (mem : k ∈ l) (room : l.length < scanBound) (q : Q false s) :
    wpAny (model P w) A (setAddHashed a (.str k u) (hashStr w k)) Q E s := by
  obtain ⟨es, ep, t⟩ := D
  have dat : (sObj T (es, ep, t)).data = .set es ep t := rfl
  have few : es.size < scanBound := by rw [show es.size = l.length from F.sz]; exact room
  have elems : ElemsOf (strKind P w) es.toList := F.el
  unfold setAddHashed setAddHashedIn
  refine wpAny_holding (wpAny_bind (wpAny_setState_of at' dat F.fit ?_))
  dsimp only
  rw [byScan_of (show (Value.str k u).scannable = true from rfl) few elems, if_pos rfl]
  unfold setAddByScan
  refine wpAny_bind (wpAny_bind (wpAny_rule (wpAny_bind (wpAny_setScan_of (knd := strKind P w) (k := k) (is_str k u) at' dat F.fit elems ?_))))
  cases fi : List.findIdx? (fun e => (strKind P w).is k e.2) es.toList with
  | some j =>
    dsimp only
    exact wpAny_pure (wpAny_pure q)
  | none =>
    obtain ⟨e, he, z⟩ := (F.mem k).mp mem
    have c := List.findIdx?_eq_none_iff.mp fi e he
    rw [z] at c
    cases c
/-- the set at a: the texts l -/
def SetX (P : Program) (w : World) (h : Heap) (a : Addr) (l : List Str) : Prop := ∃ D, h.get? a = some (sObj "set" D) ∧ TxR P w D l
theorem upd_loop {I : Addr} {fp wr : List Addr} {GG : Array GenState → Array GenState → Prop} {n : Nat} {Pv : Nat → Value → Prop} {St : Nat → Shared → Prop} {R : Result → Shared → Prop}
    (W : WalksS P w A.in1 I fp wr GG n Pv St) (S : Addr) (apart : S ∉ fp) (xs : List Str) (hn : n = xs.length) (few : xs.length + 1 < scanBound) (val : ∀ i v, Pv i v → ∃ k t, xs[i]? = some k ∧ v = .str k t) :
    ∀ (m i : Nat) (s : Shared), n - i = m → i ≤ n → St i s → (∃ l, SetX P w s.heap S l ∧ (∀ k, k ∈ l ↔ k ∈ xs.take i) ∧ l.length ≤ i) →
      (∀ s' l, Moved (S :: wr) GG s s' → SetX P w s'.heap S l → (∀ k, k ∈ l ↔ k ∈ xs) → l.length ≤ n → R (.ok (.ret .none)) s') →
      codeAny (model P w) A (.builtin "set.update.loop" ⟨[.ref S, .ref I], []⟩) R s := by
  have Sw : S ∉ wr := fun z => apart (W.sub _ z)
  have more : ∀ b ∈ wr, b ∈ S :: wr := fun b z => List.mem_cons_of_mem _ z
  intro m
  induction m with
  | zero =>
    intro i s h0 hi st ⟨l, ⟨D, hD, hF⟩, hl, hc⟩ fin
    obtain rfl : i = n := by omega
    refine codeAny_builtin PyProof.Rows.F.entry_set_update_loop ?_
    rw [Around.under_plainId PyProof.Rows.F.plain_set_update_loop _]
    show wpAny _ A.in1 (pyNext (.ref I) >>= _) _ _ s
    refine wpAny_bind (W.done s _ _ st fun s1 mv => ?_)
    show wpAny _ A.in1 (ret Value.none) _ _ s1
    exact wpAny_pure (fin s1 l (mv.mono more) ⟨D, mv.heap S _ Sw hD, hF⟩ (fun k => by rw [hl k, List.take_of_length_le (by omega)]) hc)
  | succ m ih =>
    intro i s h0 hi st ⟨l, ⟨D, hD, hF⟩, hl, hc⟩ fin
    have lt : i < n := by omega
    refine codeAny_builtin PyProof.Rows.F.entry_set_update_loop ?_
    rw [Around.under_plainId PyProof.Rows.F.plain_set_update_loop _]
    show wpAny _ A.in1 (pyNext (.ref I) >>= _) _ _ s
    refine wpAny_bind (W.item i s _ _ lt st fun v s1 hv st1 mv => ?_)
    obtain ⟨z, t, hz, rfl⟩ := val i v hv
    have hD1 := mv.heap S _ Sw hD
    have tk : ∀ k, k ∈ xs.take (i + 1) ↔ k ∈ xs.take i ∨ k = z := fun k => by rw [List.take_add_one, hz]; simp
    show wpAny _ A.in1 (holding [Value.str z t] (setAdd S (.str z t)) >>= _) _ _ s1
    refine wpAny_bind (wpAny_holding ?_)
    unfold setAdd
    refine wpAny_holding (wpAny_bind ((strKind P w).pyHash (k := z) (is_str z t) ?_))
    by_cases hm : z ∈ l
    · refine dup_x (s := { s1 with toks := s1.toks + 1 }) hD1 hF.ok hm (by omega) ?_
      refine wpAny_pure ⟨plainId_quiet PyProof.Rows.F.plain_set_update_loop _, ih (i + 1) _ (by omega) lt (W.frame _ s1 _ _ st1 (Nat.le_succ _) fun b _ o e => e) ⟨l, ⟨D, hD1, hF⟩, fun k => by
        rw [hl k, tk k]; exact ⟨.inl, fun y => y.elim id fun y => by rw [y, ← hl z]; exact hm⟩, by omega⟩ fun s2 l2 mv2 h1 h2 h3 => ?_⟩
      exact fin s2 l2 (Moved.trans W.gtrans ((mv.mono more).then_heap (Nat.le_succ _) fun b o hb e => e) mv2) h1 h2 h3
    · refine add_x (s := { s1 with toks := s1.toks + 1 }) hD1 hF.ok hm (by omega) ?_
      have other : ∀ b o, b ≠ S → s1.heap.get? b = some o → (s1.heap.update S (fun _ => sObj "set" (addTx (hashStr w z) (.str z t) D))).get? b = some o := fun b o hb e => (Heap.get?_update_other _ _ (Ne.symm hb)).trans e
      refine wpAny_pure ⟨plainId_quiet PyProof.Rows.F.plain_set_update_loop _, ih (i + 1) _ (by omega) lt (W.frame _ s1 _ _ st1 (Nat.le_succ _) fun b hb o e => other b o (fun y => apart (y ▸ hb)) e) ⟨z :: l, ⟨_, get_upd _ hD1 rfl, hF.add t hm⟩, fun k => by
        rw [List.mem_cons, hl k, tk k]; exact Or.comm, by rw [List.length_cons]; omega⟩ fun s2 l2 mv2 h1 h2 h3 => ?_⟩
      exact fin s2 l2 (Moved.trans W.gtrans ((mv.mono more).then_heap (Nat.le_succ _) fun b o hb e => other b o (fun y => hb (by rw [y]; exact List.mem_cons_self)) e) mv2) h1 h2 h3
end
end G

set_option maxHeartbeats 4000000
namespace G
open PySem PySem.Spec PyProof.Rows L2 PySem.Froz
section
variable {P : Program} {w : World} {A : Around} {E : Value → Shared → Prop} {s : Shared}
/-- a set as it is made -/
def set0 (w : World) : Obj := { cls := .type "set", dict := none, data := .set #[] 0 (.fresh 0 0 (!w.params.followText "set-order")) }
theorem set0_ok {h : Heap} {a : Addr} (e : h.get? a = some (set0 w)) : SetX P w h a [] :=
  ⟨(#[], 0, .fresh 0 0 (!w.params.followText "set-order")), e, ⟨TxOk.nil (by rfl), .nil, by
    show Ris (SetTable.fresh 0 0 (!w.params.followText "set-order")).place.toList
    exact List.Pairwise.nil, by
    show _ ∨ (SetTable.fresh 0 0 (!w.params.followText "set-order")).led = true
    cases hf : w.params.followText "set-order" with
    | true => exact .inl rfl
    | false => exact .inr rfl⟩⟩
/-- set(xs), xs a list of texts -/
theorem call_setX {l : Addr} {items : Array Value} (xs : List Str) {Q : Value → Shared → Prop} (calm : A.handled = none) (isl : s.heap.IsList l items) (areS : StrsAre items.toList xs) (few : xs.length + 1 < scanBound)
    (fin : ∀ (h' : Heap) (tk : Nat) (ys : List Str), SetX P w h' s.heap.objs.size ys → (∀ k, k ∈ ys ↔ k ∈ xs) → ys.length ≤ xs.length → (∀ b o, s.heap.get? b = some o → h'.get? b = some o) → Q (.ref s.heap.objs.size) { s with heap := h', toks := tk }) :
    wpAny (model P w) A (call (.type "set") [.ref l]) Q E s := by
  have isz : items.size = xs.length := by have z := StrsAre.len_eq areS; rw [Array.length_toList] at z; exact z
  obtain ⟨cm, tlm, mro'⟩ := PySem.F.called_set.mro
  have made' := PySem.F.called_set.made; have sub' := PySem.F.called_set.sub
  refine wpAny_call (codeAny_of_tree ?_)
  show wpAny _ _ (callAny (.type "set") _) _ _ _
  refine wpAny_pure ⟨Code.quiet_builtin _ (by decide +kernel), codeAny_builtin PySem.F.entry_type_call ?_⟩
  rw [Around.under_plain (weight_type_call_type "set" [.ref l] []) rfl]
  have nt := PySem.F.called_set.notType; have cc := PySem.F.called_set.canCreate; have tc1 := PySem.F.typeCall_set_1 (.ref l)
  repeat (any_goals (first | assumption | wp_step))
  refine codeAny_mono (code_set_led1 (.ref l) (E := E) (Q₁ := fun obj s1 => obj = .ref s.heap.objs.size ∧ s1 = { s with heap := s.heap.push (set0 w) }) ⟨rfl, rfl⟩) fun r s1 hr => ?_
  cases r with
  | error e => exact hr
  | ok fl =>
    cases fl with
    | ret obj =>
      obtain ⟨rfl, rfl⟩ := hr
      have isS : (s.heap.push (set0 w)).get? s.heap.objs.size = some (set0 w) := Heap.get?_push_size _ rfl
      have isT : Shared.TypeIs { s with heap := s.heap.push (set0 w) } (.ref s.heap.objs.size) "set" := ⟨_, isS, rfl⟩
      have li := PySem.F.called_set.init.lookup; have bi := PySem.F.called_set.init.bind (.ref s.heap.objs.size)
      repeat (any_goals (first | assumption | wp_step))
      refine codeAny_mono (codeAny_call_builtin (R := wants (fun r s2 => r = .none ∧ ∃ h' tk ys, s2 = { s with heap := h', toks := tk } ∧ SetX P w h' s.heap.objs.size ys ∧ (∀ k, k ∈ ys ↔ k ∈ xs) ∧ ys.length ≤ xs.length ∧
          (∀ b o, s.heap.get? b = some o → h'.get? b = some o)) E) PySem.F.called_set.init.plain PySem.F.entry_set_init (check_set_init_1 isT ?_)) fun r2 s2 hr2 => ?_
      · obtain ⟨⟨oc, od, odt, osl⟩, hol, hcl, nl, hdl⟩ := isl
        simp only at hcl hdl
        subst hcl; subst hdl
        have hol' : (s.heap.push (set0 w)).get? l = some { cls := .type "list", dict := od, data := .seq items nl, slots := osl } := Heap.get?_push_of_some _ hol
        have sls := PySem.F.sub_list_set; have slf := PySem.F.sub_list_frozenset
        have nd : (Value.type "list" == Value.type "dict") = false := by decide
        have isl1 : (s.heap.push (set0 w)).IsList l items := ⟨_, hol', rfl, nl, rfl⟩
        unfold Builtin.«set.__init__» noKeywords Builtin.Frozenset.updateFrom
        generalize hPI : pyIter = PI
        wp_walk
        subst hPI
        refine wpAny_pyIter_list isl1 (wpAny_bind (wpAny_runValue ?_))
        have lS : l < s.heap.objs.size := Heap.lt_size hol
        have calm3 : A.in1.in1.in1.handled = none := by simp [calm]
        have pz : (s.heap.push (set0 w)).objs.size = s.heap.objs.size + 1 := Heap.size_push ..
        have neI : l ≠ (s.heap.push (set0 w)).objs.size := by rw [pz]; exact Nat.ne_of_lt (Nat.lt_succ_of_lt lS)
        have nin : s.heap.objs.size ∉ [(s.heap.push (set0 w)).objs.size, l] := by
          simp only [List.mem_cons, List.not_mem_nil, or_false, not_or]
          exact ⟨by rw [pz]; exact Nat.ne_of_lt (Nat.lt_succ_self _), Nat.ne_of_gt lS⟩
        have val : ∀ (i : Nat) (v : Value), items[i]? = some v → ∃ k t, xs[i]? = some k ∧ v = .str k t := fun i v hv => by
          have hi : i < xs.length := by rw [← isz]; exact (Array.getElem?_eq_some_iff.mp hv).1
          obtain ⟨t, e⟩ := SS.strs_at areS i v (by rw [Array.getElem?_toList]; exact hv)
          exact ⟨xs[i], t, List.getElem?_eq_getElem hi, by rw [e, List.getD_eq_getElem?_getD, List.getElem?_eq_getElem hi] <;> rfl⟩
        refine upd_loop ((Walks.list calm3 _ l neI items).toS) s.heap.objs.size nin xs isz few val (items.size - 0) 0 _ (by omega) (Nat.zero_le _)
          ⟨⟨_, Heap.get?_push_size _ rfl, rfl, rfl⟩, (isl1.push _)⟩ ?start ?out
        case start => exact ⟨[], set0_ok (Heap.get?_push_of_some _ isS), fun k => by simp, Nat.le_refl 0⟩
        case out =>
          intro s' ys mv h1 h2 h3
          obtain ⟨h', g2, d', tk', os'⟩ := s'
          have eg : g2 = s.gens := mv.gens
          have ed : d' = s.drawn := mv.drawn
          have eo : os' = s.os := mv.os
          subst eg; subst ed; subst eo
          show wpAny _ _ _ _ _ _
          refine wpAny_pure ?_
          show wpAny _ _ (ret Value.none) _ _ _
          refine wpAny_pure ⟨rfl, h', tk', ys, rfl, h1, h2, by omega, fun b o e => ?_⟩
          have b0 : b < s.heap.objs.size := Heap.lt_size e
          have pz0 : (s.heap.push (set0 w)).objs.size = s.heap.objs.size + 1 := Heap.size_push ..
          exact mv.heap b o (by
            simp only [List.mem_cons, List.not_mem_nil, or_false, not_or]
            exact ⟨Nat.ne_of_lt b0, by rw [pz0]; exact Nat.ne_of_lt (Nat.lt_succ_of_lt b0)⟩) (Heap.get?_push_of_some _ (Heap.get?_push_of_some _ e))
      · cases r2 with
        | error e => exact hr2
        | ok fl2 =>
          cases fl2 with
          | ret r =>
            obtain ⟨rfl, h', tk, ys, rfl, a1, a2, a3, a4⟩ := hr2
            repeat (any_goals (first | assumption | wp_step))
            exact fin _ _ _ a1 a2 a3 a4
          | _ => exact hr2.elim
    | _ => exact hr.elim
end
end G

set_option maxHeartbeats 4000000
namespace G
open PySem PySem.Spec PyProof.Rows L2 PySem.Froz
theorem perm_of {α : Type} [DecidableEq α] : ∀ {l m : List α}, l.Nodup → (∀ x ∈ l, x ∈ m) → m.length = l.length → m.Perm l
  | [], m, _, _, e => by rw [List.length_eq_zero_iff.mp e]
  | x :: l, m, nd, sub, e => by
    have nd' := List.nodup_cons.mp nd
    have hx := sub x List.mem_cons_self
    refine (List.perm_cons_erase hx).trans ((perm_of nd'.2 (fun y hy => (List.mem_erase_of_ne fun z => nd'.1 (by rw [← z]; exact hy)).mpr (sub y (List.mem_cons_of_mem _ hy))) ?_).cons x)
    rw [List.length_erase_of_mem hx, e, List.length_cons]; omega
theorem strsOf : ∀ (vs : List Value), (∀ v ∈ vs, ∃ x tk, v = Value.str x tk) → ∃ xs, StrsAre vs xs
  | [], _ => ⟨[], .nil⟩
  | v :: vs, h => by
    obtain ⟨x, tk, rfl⟩ := h _ List.mem_cons_self
    obtain ⟨xs, e⟩ := strsOf vs fun u m => h u (List.mem_cons_of_mem _ m)
    exact ⟨x :: xs, .cons x tk e⟩
theorem strs_in : ∀ {vs : List Value} {xs : List Str}, StrsAre vs xs → ∀ k, (∃ v ∈ vs, ∃ tk, v = Value.str k tk) → k ∈ xs
  | _, _, .nil, k, ⟨v, m, _⟩ => by cases m
  | _, _, .cons x t r, k, ⟨v, m, tk, e⟩ => by
    rcases List.mem_cons.mp m with rfl | m
    · cases e; exact List.mem_cons_self
    · exact List.mem_cons_of_mem _ (strs_in r k ⟨v, m, tk, e⟩)
section
variable {P : Program} {w : World} {A : Around} {E : Value → Shared → Prop} {s : Shared}
theorem sorted_setX {a : Addr} {l : List Str} {Q : Value → Shared → Prop} (R : SetX P w s.heap a l) (calm : A.handled = none) (few : l.length < 64)
    (fin : ∀ s' p (out : Array Value) (c : Nat) (ys : List Str), (∀ b o, s.heap.get? b = some o → s'.heap.get? b = some o) → s'.gens = s.gens → s'.os = s.os → s.heap.objs.size ≤ p →
      s'.heap.get? p = some (seqObj "list" out c) → StrsAre out.toList ys → ys.Perm l → sortedS ys = true → Q (.ref p) s') :
    wpAny (model P w) A (call (.builtin "sorted") [.ref a]) Q E s := by
  obtain ⟨⟨es, ep, t⟩, ho, F⟩ := R
  have ess : es.size = l.length := F.ok.sz
  have fewS : es.size < scanBound := by rw [ess]; unfold scanBound; omega
  refine Calls.call_function_entry kind_sorted plain_sorted entry_sorted (args_sorted1 _) ?_
  unfold Builtin.«sorted»
  refine wpAny_bind (m := checkCount "sorted" 1 1 _) (wpAny_pure (wpAny_bind (collect_set (A := A.in1) calm ⟨_, ho, rfl, rfl⟩ F.ok.fit fewS F.ris F.led fun s1 vs k1 hz g1 o1 pm => ?_)))
  have vl : vs.length = l.length := by rw [pm.length_eq, List.length_map, Array.length_toList]; exact ess
  have each : ∀ v ∈ vs, ∃ x tk, v = Value.str x tk := fun v hv => by
    obtain ⟨e, he, q⟩ := List.mem_map.mp (pm.mem_iff.mp hv)
    obtain ⟨⟨k, h1, _⟩, _⟩ := F.ok.el e he
    obtain ⟨tk, e1⟩ := Value.isStrOf_shape (x := k) (v := e.2) h1
    exact ⟨k, tk, by rw [← q]; exact e1⟩
  obtain ⟨xs, areS⟩ := strsOf vs each
  have xl : xs.length = l.length := by rw [← StrsAre.len_eq areS, vl]
  have px : xs.Perm l := perm_of F.nd (fun k hk => strs_in areS k (by
    obtain ⟨e, he, z⟩ := (F.ok.mem k).mp hk
    obtain ⟨tk, e1⟩ := Value.isStrOf_shape (x := k) (v := e.2) z
    exact ⟨e.2, pm.mem_iff.mpr (List.mem_map.mpr ⟨e, he, rfl⟩), tk, e1⟩)) xl
  refine wpAny_bind (wpAny_newList ?_ (by rw [vl, sizeLine_eq]; omega))
  have oL : (s1.heap.push (seqObj "list" vs.toArray 0)).get? s1.heap.objs.size = some (seqObj "list" vs.toArray 0) := Heap.get?_push_size _ rfl
  refine wpAny_bind (wpAny_holding (wpAny_call_entry slot_list_sort ⟨_, oL, rfl⟩ entry_list_sort (list_sort_treeK strKind_oneLt oL areS.keysOf (fun v1 v2 rest e => keyKind_strs (by rw [← e]; exact areS)) (by rw [vl]; exact few) fun st hp hs => ⟨_, rfl, ?_⟩) (args_list_sort _)))
  obtain ⟨ys, y1, y2, y3⟩ := sorted_out_str areS hp hs
  obtain ⟨c, hc⟩ := sortedHeap_at (vs := vs) (out := (arrOf st).map (·.2)) oL
  refine wpAny_pure ⟨_, rfl, fin _ s1.heap.objs.size _ c ys (fun b u e => ?_) g1 o1 hz hc y1 (y2.trans px) y3⟩
  have b1 := Heap.lt_size (k1 b u e)
  show (sortedHeap (s1.heap.push (seqObj "list" vs.toArray 0)) s1.heap.objs.size vs _).get? b = some u
  rw [sortedHeap_old (Nat.ne_of_lt b1) (by rw [Heap.size_push]; exact Nat.lt_succ_of_lt b1)]
  exact Heap.get?_push_of_some _ (k1 b u e)
end
/-- sorted(set(a)), a a list of texts -/
def tSortSet (K : PySem.W.Frag) (ta : TE) : TE := fun σ H Q => ta σ H fun x H1 => ∃ (l : Addr) (xs : List Str), x = .ref l ∧ SqL K H1 l (xs.map V.str) ∧ xs.length < 64 ∧
  ∀ (ys : List Str) (p : Addr), ys.Nodup → (∀ k, k ∈ ys ↔ k ∈ xs) → sortedS ys = true → H1 p = none → Q (.ref p) (upd H1 p (.lst (ys.map V.str)))
section
variable {X : Cx} {Ec : L2.St → XK} {a : Expr} {ta : TE} {ax : AX} {p p2 q pos : Pos}
theorem pe_sortSet (hc : X.calm = true) (hg : Gl X "sorted") (hm : X.mg "sorted" = none) (hg2 : Gl X "set") (hm2 : X.mg "set" = none) (ha : PE X a ta)
    (na : starEach [a] X.env = (false, eval a X.env) :: starEach [] X.env := by rfl) : PE X (.Call (.Name "sorted" p) [.Call (.Name "set" p2) [a] [] q] [] pos) (tSortSet X.K ta) := by
  refine ⟨fun pins s σ H Q I h => Call_ (ld_blt I hg hm boot_b_sorted ?_)⟩
  refine PyProof.Rows.callWith_builtin1 (PyProof.Rows.args_cons ?_ rfl) rfl rfl
  refine Call_ (ld_blt I hg2 hm2 boot_set (PyProof.Rows.callWith_type1 (PyProof.Rows.args_cons (thn (ha.run pins s σ H _ I h) fun v s1 ⟨x, H1, I1, r1, q1⟩ => PyProof.Rows.args_nil ?_) na) na rfl))
  obtain ⟨l, xs, rfl, hq, h64, q1⟩ := q1
  cases r1
  obtain ⟨its, r, pl, hz⟩ := I1.list hq
  refine call_setX xs (I1.ok.hd hc) pl.isList (by simpa using strsAre_of r) (by unfold scanBound; omega) fun h' tk l' hX hk hl keep => ?_
  refine PyProof.Rows.args_nil ?_
  have I2 : Inv X pins σ H1 { s1 with heap := h', toks := tk } := I1.kept fun b o e => keep b o e
  have nd := hX.choose_spec.2.nd
  refine sorted_setX hX (I1.ok.hd hc) (by omega) fun s' pp out c ys k g o hp hgt hi hper hs => ?_
  have yl : (ys.map V.str).length ≤ sizeLine := by rw [List.length_map, hper.length_eq, sizeLine_eq]; omega
  have hn : H1 pp = none := I2.hok.fresh hp
  have J : Inv X pins σ (upd H1 pp (.lst (ys.map V.str))) { ({ s1 with heap := h', toks := tk } : Shared) with heap := s'.heap, gens := s'.gens, drawn := s'.drawn, toks := s'.toks } :=
    I2.call (ch := []) (Un.laid k hp hn) (I2.hok.laid k hp ⟨yl, out.toList, c, vals_of_strs hi, hgt⟩) (by rw [g]; exact I2.bare) (fun _ z => nomatch z)
  have e : s' = { ({ s1 with heap := h', toks := tk } : Shared) with heap := s'.heap, gens := s'.gens, drawn := s'.drawn, toks := s'.toks } := by
    cases s'; cases s1; cases o; rfl
  rw [e]
  exact ⟨.ref pp, _, J, rfl, q1 ys pp (hper.nodup_iff.mpr nd) (fun kk => hper.mem_iff.trans (hk kk)) hs hn⟩
def kSS (Q : Rx → Fs → Prop) (d : D) (fs1 : Fs) : Prop := match d with
  | .lst ds => ∃ zs : List Str, ds = zs.map D.str ∧ zs.length < 64 ∧ ∀ ys : List Str, ys.Nodup → (∀ k, k ∈ ys ↔ k ∈ zs) → sortedS ys = true → Q (.fr (.lst (ys.map D.str))) fs1
  | _ => False
def aSS (a : AX) (E : XP) (fs : Fs) (Q : Rx → Fs → Prop) : Prop := aD a E fs (kSS Q)
theorem ex_sortSet (hm : X.mg "sorted" = none) (hm2 : X.mg "set" = none) (h : EX X Ec a ax) (hc : X.calm = true := by rfl) (hg : Gl X "sorted" := by rfl) (hg2 : Gl X "set" := by rfl)
    (na : starEach [a] X.env = (false, eval a X.env) :: starEach [] X.env := by rfl) : EX X Ec (.Call (.Name "sorted" p) [.Call (.Name "set" p2) [a] [] q] [] pos) (aSS ax) :=
  EXt.x ⟨pe_sortSet hc hg hm hg2 hm2 h.p na, fun c σ W fs E Q Q' F A hh k => by
    refine h.s.dd c σ W fs E _ _ F A hh fun v d W1 fs1 l1 F1 r1 q1 => ?_
    unfold kSS at q1
    split at q1
    · obtain ⟨zs, rfl, hl, q1⟩ := q1
      obtain ⟨b, vs, rfl, hs, r⟩ := rep_lst r1
      have hq := hs W1 (Le.refl W1)
      rw [reps_strs r] at hq
      refine ⟨b, zs, rfl, hq, hl, fun ys pp h1 h2 h3 hp => ?_⟩
      have ex : Exs W1.H (upd W1.H pp (.lst (ys.map V.str))) := Exs.new hp
      refine k _ (.fr (.lst (ys.map D.str))) ⟨_, W1.F⟩ fs1 (l1.trans (Le.grow ex F1.dF)) (F1.grow ex) ?_ (q1 ys h1 h2 h3)
      exact F1.zx (z := .fr (.lst (ys.map D.str))) ex ⟨pp, rfl, hp, fun f => F1.dF pp f hp, _, upd_same, Reps.strs ys⟩
    · exact q1.elim⟩
end
theorem oSS_x : ∃ f, f = @aSS := ⟨_, rfl⟩
noncomputable def oSS := Classical.choose oSS_x
theorem oSS_s : @aSS = oSS := (Classical.choose_spec oSS_x).symm
theorem oSS_e {a : AX} {E : XP} {fs : Fs} {Q : Rx → Fs → Prop} : oSS a E fs Q = oD a E fs (kSS Q) := by rw [← oSS_s, ← oD_s]; rfl
end G

set_option maxHeartbeats 4000000
namespace G
open PySem PySem.Spec PyProof.Rows L2
/-! < of numbers, of texts -/
def arLtA (d e : D) (Q : Zx → Prop) : Prop := match d, e with
  | .int i, .int j => Q (.dt (.bl (decide (i < j))))
  | .str x, .str y => Q (.dt (.bl (decide (x.cps.toList < y.cps.toList))))
  | _, _ => False
def rLtA : R2 := fun x y H Q => rI0 (fun i j => .bl (decide (i < j))) x y H Q ∨ ∃ i j, x = .str i ∧ y = .str j ∧ Q (.bl (decide (i.cps.toList < j.cps.toList))) H
theorem op_ltA {X : Cx} : OpR X (compareOp .Lt) rLtA := opr_or op_lt op_lt_str
theorem op2_ltA {K : PySem.W.Frag} : Op2 K rLtA arLtA := fun W x y d e Q Q' dF hx hy h k => by
  unfold arLtA at h
  split at h
  · cases hx.int
    cases hy.int
    exact .inl ⟨_, _, rfl, rfl, k _ (.dt (.bl _)) W.H (Exs.refl _) (zx0 (.bl _)) h⟩
  · cases hx.str
    cases hy.str
    exact .inr ⟨_, _, rfl, rfl, k _ (.dt (.bl _)) W.H (Exs.refl _) (zx0 (.bl _)) h⟩
  · exact h.elim
/-! a name's thing, frozen where it is handed on -/
def kFz (Q : Rx → Fs → Prop) (d : D) (fs1 : Fs) : Prop := Q (.dt d) fs1
def aFz (a : AX) (E : XP) (fs : Fs) (Q : Rx → Fs → Prop) : Prop := aD a E fs (kFz Q)
theorem ex_frz {X : Cx} {Ec : L2.St → XK} {e : Expr} {a : AX} (h : EX X Ec e a) : EX X Ec e (aFz a) := EXt.x ⟨h.p, fun c σ W fs E Q Q' F A ha k =>
  h.s.dd c σ W fs E _ _ F A ha fun v d W1 fs1 l1 F1 r1 q1 => k v (.dt d) W1 fs1 l1 F1 r1 q1⟩
theorem oFz_x : ∃ f, f = @aFz := ⟨_, rfl⟩
noncomputable def oFz := Classical.choose oFz_x
theorem oFz_s : @aFz = oFz := (Classical.choose_spec oFz_x).symm
theorem oFz_e {a : AX} {E : XP} {fs : Fs} {Q : Rx → Fs → Prop} : oFz a E fs Q = oD a E fs (kFz Q) := by rw [← oFz_s, ← oD_s]; rfl
end G

set_option maxHeartbeats 4000000
namespace G
open PySem PySem.Spec PyProof.Rows L2
/-! a table of the module: which keys it has -/
theorem keys_find {P : Params} {z : Str} : ∀ {l : List DictEntry} {ks : List Str}, l.map He.keyOf = He.keysIn P ks →
    (if z ∈ ks then ∃ e, l.find? (·.key.isStr z) = some e else l.find? (·.key.isStr z) = none ∧ l.any (·.refKey) = false)
  | [], [], _ => by simp
  | [], k :: ks, h => by cases h
  | e :: r, [], h => by cases h
  | e :: r, k :: ks, h => by
    have h1 : He.keyOf e :: r.map He.keyOf = some (k, PyData.keyHash P k) :: He.keysIn P ks := h
    injection h1 with h2 h3
    have ih := keys_find (z := z) h3
    unfold He.keyOf at h2
    split at h2
    · rename_i x t q
      obtain ⟨h5, _⟩ := Prod.mk.inj (Option.some.inj h2)
      subst h5
      have hk : e.key.isStr z = decide (x = z) := by
        rw [q]
        show (match (Value.str x t) with | .str y _ => y == z | _ => false) = decide (x = z)
        rw [Bool.eq_iff_iff, beq_iff_eq, decide_eq_true_eq]
      have hr : e.refKey = false := by unfold DictEntry.refKey; rw [q]
      by_cases hz : x = z
      · subst hz
        rw [if_pos List.mem_cons_self]
        exact ⟨e, by rw [List.find?_cons, hk, decide_eq_true rfl]⟩
      · have hm : (z ∈ x :: ks) = (z ∈ ks) := propext ⟨fun m => by
          rcases List.mem_cons.mp m with m | m
          · exact absurd m.symm hz
          · exact m, fun m => List.mem_cons_of_mem _ m⟩
        simp only [hm]
        rw [List.find?_cons, hk, decide_eq_false hz, List.any_cons, hr, Bool.false_or]
        exact ih
    · cases h2
structure TabM (K : PySem.W.Frag) (w : World) (mg : Str → Option Value) (x : Str) (ks : List Str) : Prop where
  ex : ∃ p es n, mg x = some (.ref p) ∧ KDict K w p es n ∧ ∀ z, ∃ r, PySem.W.nsIn K p z = some r ∧ r.isSome = decide (z ∈ ks)
theorem tabM_mk {K : PySem.W.Frag} {w : World} {mg : Str → Option Value} {x : Str} {p : Addr} {ks : List Str} (h : mg x = some (.ref p)) (hk : He.dicW K p = some (He.keysIn w.params ks)) : TabM K w mg x ks := by
  obtain ⟨es, n, D⟩ := He.dicW_ok hk
  refine ⟨p, es, n, h, D, fun z => ?_⟩
  have hm : es.toList.map He.keyOf = He.keysIn w.params ks := by
    unfold He.dicW at hk
    rw [D.at_] at hk
    dsimp only at hk
    split at hk
    · exact Option.some.inj hk
    · cases hk
  have := keys_find (z := z) hm
  unfold PySem.W.nsIn
  rw [D.at_]
  dsimp only
  by_cases hz : z ∈ ks
  · rw [if_pos hz] at this
    obtain ⟨e, he⟩ := this
    rw [he]
    exact ⟨_, rfl, by rw [decide_eq_true hz]; rfl⟩
  · rw [if_neg hz] at this
    rw [this.1]
    dsimp only
    rw [this.2, if_neg (by decide)]
    exact ⟨_, rfl, by rw [decide_eq_false hz]; rfl⟩
def kInT (neg : Bool) (ks : List Str) (Q : Rx → Fs → Prop) (d : D) (fs1 : Fs) : Prop := match d with
  | .str z => Q (.dt (.bl (neg != inD (.str z) (ks.map D.str)))) fs1
  | _ => False
def aInT (neg : Bool) (ks : List Str) (a : AX) (E : XP) (fs : Fs) (Q : Rx → Fs → Prop) : Prop := aD a E fs (kInT neg ks Q)
section
variable {X : Cx} {Ec : L2.St → XK} {e : Expr} {x : Str} {a : AX} {pos p2 : Pos} {ks : List Str}
theorem snd_inT {p : Addr} {es : Array DictEntry} {n : Nat} {t : TE} (neg : Bool) (D : KDict X.K X.w p es n) (hr : ∀ z, ∃ r, PySem.W.nsIn X.K p z = some r ∧ r.isSome = decide (z ∈ ks)) (h : SndX X.K Ec t a) :
    SndX X.K Ec (tOp (fun x y H Q => ∃ (z : Str) (r : Option Value), x = .str z ∧ y = .ref p ∧ PySem.W.nsIn X.K p z = some r ∧ Q (.bl (neg != r.isSome)) H) t (tC (.ref p))) (aInT neg ks a) := fun c σ W fs E Q Q' F A ha k => by
  refine h.dd c σ W fs E _ _ F A ha fun v d W1 fs1 l1 F1 r1 q1 => ?_
  unfold kInT at q1
  split at q1
  · rename_i z
    cases r1
    obtain ⟨r, e1, e2⟩ := hr z
    refine ⟨z, r, rfl, rfl, e1, ?_⟩
    rw [e2, ← inD_strs]
    exact k _ (.dt (.bl _)) W1 fs1 l1 F1 (.bl _) q1
  · exact q1.elim
theorem ne_false' (b : Bool) : (false != b) = b := by cases b <;> rfl
theorem ex_inT (h : TabM X.K X.w X.mg x ks) (h2 : EX X Ec e a) (hg : Gl X x := by rfl) (hdb : (x == ("__debug__" : Str)) = false := by decide) (hm : behindInMarks .In (.Name x p2) = false := by rfl) :
    EX X Ec (.Compare e [.In] [.Name x p2] pos) (aInT false ks a) := by
  obtain ⟨p, es, n, h1, D, hr⟩ := h.ex
  exact EXt.x ⟨pe_cmpR (r := fun x y H Q => ∃ (z : Str) (r : Option Value), x = .str z ∧ y = .ref p ∧ PySem.W.nsIn X.K p z = some r ∧ Q (.bl (false != r.isSome)) H)
    (fun pins s σ H x y v u Q I rx ry h => by
      obtain ⟨z, r, e1, e2, e3, q⟩ := h
      exact op_in_kd D pins s σ H x y v u Q I rx ry ⟨z, r, e1, e2, e3, by rw [ne_false'] at q; exact q⟩) h2.p (pe_glob (v := .ref p) hg h1 rfl hdb) hm, snd_inT false D hr h2.s⟩
theorem ex_notInT (h : TabM X.K X.w X.mg x ks) (h2 : EX X Ec e a) (hg : Gl X x := by rfl) (hdb : (x == ("__debug__" : Str)) = false := by decide) (hm : behindInMarks .NotIn (.Name x p2) = false := by rfl) :
    EX X Ec (.Compare e [.NotIn] [.Name x p2] pos) (aInT true ks a) := by
  obtain ⟨p, es, n, h1, D, hr⟩ := h.ex
  exact EXt.x ⟨pe_cmpR (r := fun x y H Q => ∃ (z : Str) (r : Option Value), x = .str z ∧ y = .ref p ∧ PySem.W.nsIn X.K p z = some r ∧ Q (.bl (true != r.isSome)) H)
    (fun pins s σ H x y v u Q I rx ry h => by
      obtain ⟨z, r, e1, e2, e3, q⟩ := h
      exact op_notIn_kd D pins s σ H x y v u Q I rx ry ⟨z, r, e1, e2, e3, by rw [Bool.true_bne] at q; exact q⟩) h2.p (pe_glob (v := .ref p) hg h1 rfl hdb) hm, snd_inT true D hr h2.s⟩
theorem snd_bl {K : PySem.W.Frag} {t : TE} (h : SndX K Ec t a) : SndT K Ec (tTest t) (aBl a) := fun c σ W fs E Q Q' F A ha k => by
  refine h c σ W fs E _ _ F A ha fun v r W1 fs1 l1 F1 k1 q1 => ?_
  cases r with
  | dt x => cases x with
    | bl b =>
      have k1' : Rep K W1 v (.bl b) := k1
      cases k1'
      exact ⟨b, rfl, k b W1 fs1 l1 F1 q1⟩
    | _ => exact q1.elim
  | _ => exact q1.elim
theorem et_inT (h : TabM X.K X.w X.mg x ks) (h2 : EX X Ec e a) (hg : Gl X x := by rfl) (hdb : (x == ("__debug__" : Str)) = false := by decide) (hm : behindInMarks .In (.Name x p2) = false := by rfl) :
    ET X Ec (.Compare e [.In] [.Name x p2] pos) (aBl (aInT false ks a)) := by
  obtain ⟨p, es, n, h1, D, hr⟩ := h.ex
  exact ETt.x ⟨pt_cmpR (r := fun x y H Q => ∃ (z : Str) (r : Option Value), x = .str z ∧ y = .ref p ∧ PySem.W.nsIn X.K p z = some r ∧ Q (.bl (false != r.isSome)) H)
    (fun pins s σ H x y v u Q I rx ry h => by
      obtain ⟨z, r, e1, e2, e3, q⟩ := h
      exact op_in_kd D pins s σ H x y v u Q I rx ry ⟨z, r, e1, e2, e3, by rw [ne_false'] at q; exact q⟩) h2.p (pe_glob (v := .ref p) hg h1 rfl hdb) hm, snd_bl (snd_inT false D hr h2.s)⟩
theorem et_notInT (h : TabM X.K X.w X.mg x ks) (h2 : EX X Ec e a) (hg : Gl X x := by rfl) (hdb : (x == ("__debug__" : Str)) = false := by decide) (hm : behindInMarks .NotIn (.Name x p2) = false := by rfl) :
    ET X Ec (.Compare e [.NotIn] [.Name x p2] pos) (aBl (aInT true ks a)) := by
  obtain ⟨p, es, n, h1, D, hr⟩ := h.ex
  exact ETt.x ⟨pt_cmpR (r := fun x y H Q => ∃ (z : Str) (r : Option Value), x = .str z ∧ y = .ref p ∧ PySem.W.nsIn X.K p z = some r ∧ Q (.bl (true != r.isSome)) H)
    (fun pins s σ H x y v u Q I rx ry h => by
      obtain ⟨z, r, e1, e2, e3, q⟩ := h
      exact op_notIn_kd D pins s σ H x y v u Q I rx ry ⟨z, r, e1, e2, e3, by rw [Bool.true_bne] at q; exact q⟩) h2.p (pe_glob (v := .ref p) hg h1 rfl hdb) hm, snd_bl (snd_inT true D hr h2.s)⟩
end
/-- rows grouped ahead of a cut -/
theorem ss_consG {X : Cx} {Ec : L2.St → XK} {st : Stmt} {rest : List Stmt} {a b c : AS} (h : SX X Ec st a) (h2 : SXs X Ec rest (aSeqC b c)) : SXs X Ec (st :: rest) (aSeqC (aSeq a b) c) := (ss_cons h h2 : SXs X Ec (st :: rest) (aSeq a (aSeqC b c)))
theorem oInT_x : ∃ f, f = @aInT := ⟨_, rfl⟩
noncomputable def oInT := Classical.choose oInT_x
theorem oInT_s : @aInT = oInT := (Classical.choose_spec oInT_x).symm
theorem oInT_e {neg : Bool} {ks : List Str} {a : AX} {E : XP} {fs : Fs} {Q : Rx → Fs → Prop} : oInT neg ks a E fs Q = oD a E fs (kInT neg ks Q) := by rw [← oInT_s, ← oD_s]; rfl
end G

set_option maxHeartbeats 4000000
namespace G
open PySem PySem.Spec PyProof.Rows L2
/-! return (e, [..]); a, b = f(..) of such a def: b is the name's own -/
def kRetT (A : AEnds) (d : D) (r : Rx) (fs1 : Fs) : Prop := match r with
  | .fr x => A.rt (.tp [d] x) fs1
  | _ => False
def kRetT1 (b : AX) (E : XP) (A : AEnds) (d : D) (fs1 : Fs) : Prop := b E fs1 (kRetT A d)
def aRetT (a b : AX) (E : XP) (A : AEnds) (fs : Fs) : Prop := aD a E fs (kRetT1 b E A)
def kUpT (i j : Nat) (rs : List Vx) (fs1 : Fs) (A : AEnds) (r : Sl) (args' : List Sl) : Prop := match r with
  | .tp [d] x => free? (backs rs args' fs1) i ∧ free? ((backs rs args' fs1).set i (.dat d)) j ∧ A.nx (((backs rs args' fs1).set i (.dat d)).set j (.own false x))
  | _ => False
def kCallU (i j : Nat) (sp : ASp) (E : XP) (A : AEnds) (rs : List Vx) (fs1 : Fs) : Prop := match apart (loans fs1 rs), argsOf fs1 rs with
  | true, some args => sp args (kUpT i j rs fs1 A) (kExc rs fs1 E)
  | _, _ => False
def aUpT (i j : Nat) (sp : ASp) (a : AVs) (E : XP) (A : AEnds) (fs : Fs) : Prop := a E fs (kCallU i j sp E A)
section
variable {K : PySem.W.Frag} {c : Cn} {σ : L2.St} {W : Wd} {fs : Fs}
theorem call_any {sp : ASp} {vs : List V} {rs : List Vx} {args : List Sl} {E : XP} {Qr : Sl → List Sl → Prop} {Q : VK} {EE : XK} (F1 : Fr K c σ W fs) (k1 : VsOk K W σ vs rs) (ap : apart (loans fs rs) = true) (ea : argsOf fs rs = some args)
    (q1 : sp args Qr (kExc rs fs E))
    (hq : ∀ v r args' W', Le W W' → Fr K c σ W' (backs rs args' fs) → ResOk K W W' v r → Qr r args' → Q v W'.H)
    (he : ∀ cls od xf W' fs', Fr K c σ W' fs' → XFld K W' od xf → E cls xf fs' → EE cls od W'.H) : spOf K sp vs W.H Q EE := by
  obtain ⟨ad, q⟩ := id F1
  obtain ⟨al, ag⟩ := argsOf_get ea
  obtain ⟨vl, v1, v2⟩ := vsok_get k1
  refine ⟨W.F, args, fun j => match rs[j]? with | some (.sl i) => ad i | _ => 0, _, _, ⟨by rw [vl, al], fun i v s ev es => ?_, fun i j d e e1 e2 ee => ?_, F1.dF⟩, q1, fun v r args' W' af ro qq => ?_, fun cls od xf args' W' af xk qq => ?_⟩
  · rcases ag i s es with ⟨d, z1, rfl⟩ | ⟨k, d, z1, z2, rfl⟩ | ⟨k, p, d, z1, z2, rfl⟩
    · exact v1 i v d ev z1
    · obtain ⟨w, e1, r⟩ := q.dat z2
      rw [v2 i k v ev z1] at e1
      cases e1
      exact r
    · obtain ⟨e1, nf, ct⟩ := q.own z2
      rw [v2 i k v ev z1] at e1
      cases e1
      show V.ref (ad k) = .ref (match rs[i]? with | some (.sl i) => ad i | _ => 0) ∧ ¬ W.F (match rs[i]? with | some (.sl i) => ad i | _ => 0) ∧ Cont K W (match rs[i]? with | some (.sl i) => ad i | _ => 0) d
      rw [z1]
      exact ⟨rfl, nf, ct⟩
  · have f1 := ag i _ e1
    have f2 := ag j _ e2
    rcases f1 with ⟨_, _, z⟩ | ⟨_, _, _, _, z⟩ | ⟨k, p, x, z1, z2, z3⟩
    · cases z
    · cases z
    · rcases f2 with ⟨_, _, z⟩ | ⟨_, _, _, _, z⟩ | ⟨k', p', x', y1, y2, y3⟩
      · cases z
      · cases z
      · have ee' : (match rs[i]? with | some (.sl i) => ad i | _ => 0) = (match rs[j]? with | some (.sl i) => ad i | _ => 0) := ee
        rw [z1, y1] at ee'
        have := q.sep k k' _ _ _ _ z2 y2 ee'
        subst this
        exact loans_inj z2 ap z1 y1
  · exact hq v r args' W' af.le ⟨ad, fr_after (vs := vs) q ap ea af⟩ ro qq
  · exact he cls od xf W' _ ⟨ad, fr_after (vs := vs) q ap ea af⟩ xk qq
end
section
variable {X : Cx} {Ec : L2.St → XK} {e e1 e2 : Expr} {es : List Expr} {a b : AX} {as : List AX} {pos p p1 p2 p3 : Pos}
theorem two_le : 2 ≤ sizeLine := by rw [sizeLine_eq]; decide
theorem sx_retT {k : Nat} (h1 : EX X Ec e1 a) (h2 : EX X Ec e2 b) (s1 : starEach [e1, e2] X.env = (false, eval e1 X.env) :: starEach [e2] X.env := by rfl) (s2 : starEach [e2] X.env = (false, eval e2 X.env) :: starEach [] X.env := by rfl) :
    SX X Ec (.Return (some (.Tuple [e1, e2] k p)) pos) (aRetT a b) := SXt.x ⟨ps_ret (pe_tup (pa_cons h1.p (pa_cons h2.p pa_nil s2) s1)), fun c σ W fs E D A F ad ha kk => by
  unfold tRet tTup tCons
  refine h1.s.dd c σ W fs E _ _ F ad ha fun v d W1 fs1 l1 F1 r1 q1 => ?_
  refine h2.s c σ W1 fs1 E _ _ F1 ad q1 fun u r W2 fs2 l2 F2 r2 q2 => ?_
  cases r with
  | dt x => exact q2.elim
  | sl i => exact q2.elim
  | fr x =>
    refine ⟨two_le, fun p np => ?_⟩
    have ex : Exs W2.H (upd W2.H p (.tup [v, u])) := Exs.new np
    obtain ⟨q, rfl, h0, nf, ct, _, hk⟩ := r2
    have l3 : Le W2 ⟨upd W2.H p (.tup [v, .ref q]), W2.F⟩ := Le.grow ex F2.dF
    obtain ⟨o, ho, _⟩ := ct.mut
    refine kk.rt (.ref p) (.tp [d] x) σ ⟨upd W2.H p (.tup [v, .ref q]), W2.F⟩ fs2 ((l1.trans l2).trans l3) (F2.grow ex) ⟨p, [v], q, rfl, upd_same, .cons ((r1.mono l2).mono l3) .nil, h0, nf, ct.mono l3 ?_, hk⟩ q2
    exact (ex q o ho).trans ho.symm⟩
theorem backs_own {rs : List Vx} {args' : List Sl} {fs : Fs} {i : Nat} {p : Bool} {d : D} (h : (backs rs args' fs)[i]? = some (.own p d)) : ∃ d0, fs[i]? = some (.own p d0) := by
  rcases backs_get rs args' fs i _ h with ⟨z, _⟩ | ⟨j, p', x, d', _, z2, _, z4⟩
  · exact ⟨d, z⟩
  · cases z4; exact ⟨x, z2⟩
theorem sx_upT {CX : CXT} {k tk : Nat} {f x y : Str} {sp : ASp} (i j : Nat) (hf : FnC X.prog X.w X.K X.mg X.base CX k f sp) (hr : Room k X.A) (hx : ∀ σ, PassesAt CX X σ (Ec σ)) (ha : EVs X Ec (e :: es) (aVs as)) (hc : X.calm = true) (hN : X.N.Nodup)
    (hi : X.N[i]? = some x := by rfl) (hj : X.N[j]? = some y := by rfl)
    (hlx : Loc X.env.scope x := by first | exact .inl rfl | exact .inr rfl) (hfx : X.fn x = true ∨ X.env.scope.names.lookup x = some .local := by first | exact .inl rfl | exact .inr rfl | assumption)
    (hly : Loc X.env.scope y := by first | exact .inl rfl | exact .inr rfl) (hfy : X.fn y = true ∨ X.env.scope.names.lookup y = some .local := by first | exact .inl rfl | exact .inr rfl | assumption)
    (hg : Gl X f := by rfl) (hdb : (f == ("__debug__" : Str)) = false := by decide)
    (he : starEach (e :: es) X.env = (false, eval e X.env) :: starEach es X.env := by rfl) (hpl : (backTo pos (starEach es X.env)).any (·.1) = false := by rfl)
    (hs : swapsWithSole [.Tuple [.Name x p1, .Name y p2] tk p3] (.Call (.Name f p) (e :: es) [] pos) pos'.line X.env = pure false := by rfl)
    (hw : swappedStores [.Tuple [.Name x p1, .Name y p2] tk p3] (.Call (.Name f p) (e :: es) [] pos) X.env = pure none := by rfl)
    (h1 : (assignEach [.Tuple [.Name x p1, .Name y p2] tk p3] X.env).map (·.2) = [assign (.Tuple [.Name x p1, .Name y p2] tk p3) X.env] := by rfl)
    (hn : (assignEach [.Name x p1, .Name y p2] X.env).length = 2 := by rfl) (hst : (assignEach [.Name x p1, .Name y p2] X.env).findIdx? (·.1) = none := by rfl)
    (ht : (assignEach [.Name x p1, .Name y p2] X.env).map (·.2) = assign (.Name x p1) X.env :: (assignEach [.Name y p2] X.env).map (·.2) := by rfl)
    (ht2 : (assignEach [.Name y p2] X.env).map (·.2) = assign (.Name y p2) X.env :: (assignEach [] X.env).map (·.2) := by rfl) :
    SX X Ec (.Assign [.Tuple [.Name x p1, .Name y p2] tk p3] (.Call (.Name f p) (e :: es) [] pos) pos') (aUpT i j sp (aVs as)) := by
  obtain ⟨ff, fd, ps, f1, f2, f3, f4⟩ := hf.ex
  refine SXt.x ⟨ps_asg (pe_callS f1 hr hg f2 f3 f4 hx ha.p hdb he hpl) (pg_tup hc (pgs_cons (pg_name hN hi hlx hfx) (pgs_cons (pg_name hN hj hly hfy) pgs_nil ht2) ht) hn hst) hs hw h1, fun c σ W fs E D A F ad haa kk => ?_⟩
  unfold tAsg tCallS
  refine ha.s c σ W fs E _ _ F ad haa fun vs rs W1 fs1 l1 F1 k1 q1 => ?_
  unfold kCallU at q1
  split at q1
  · rename_i args ap ea
    refine call_any F1 k1 ap ea q1 (fun v r args' W' l F' ro qq => ?_) fun cls od xf W' fs' F' xk q => ad σ W' fs' cls od xf F' xk q
    unfold kUpT at qq
    split at qq
    · rename_i d x'
      obtain ⟨np1, np2, q⟩ := qq
      obtain ⟨p', us, qa, rfl, ht1, rp, hq0, nf, ct⟩ := ro
      obtain ⟨u, rfl⟩ : ∃ u, us = [u] := by
        have := rp.len
        match us, this with
        | [u], _ => exact ⟨u, rfl⟩
      cases rp with
      | cons ru _ =>
      refine ⟨p', [u, .ref qa], rfl, .inl (.inl ht1), rfl, ?_⟩
      refine ⟨u, [.ref qa], rfl, .ref qa, [], rfl, rfl, ?_⟩
      have F2 := F'.setD np1 ru
      have F3 := F2.setO (i := j) (v := .ref qa) (d := x') np2 ⟨qa, rfl, F1.new0 hq0, nf, ct, fun m b z ez e1 => ?_, F1.newK hq0⟩
      · exact kk.nx _ W' _ (l1.trans l) F3 q
      · have hmi : m ≠ i := fun e => by
          subst e
          by_cases hl : m < (backs rs args' fs1).length
          · rw [List.getElem?_set_self hl] at ez; cases ez
          · rw [List.getElem?_eq_none (by rw [List.length_set]; omega)] at ez; cases ez
        rw [List.getElem?_set_ne (Ne.symm hmi)] at ez e1
        obtain ⟨d0, e0⟩ := backs_own ez
        exact F1.newS hq0 e0 e1
    · exact qq.elim
  · exact q1.elim
end
theorem oRetT_x : ∃ f, f = @aRetT := ⟨_, rfl⟩
noncomputable def oRetT := Classical.choose oRetT_x
theorem oRetT_s : @aRetT = oRetT := (Classical.choose_spec oRetT_x).symm
theorem oRetT_e {a b : AX} {E : XP} {A : AEnds} {fs : Fs} : oRetT a b E A fs = oD a E fs (kRetT1 b E A) := by rw [← oRetT_s, ← oD_s]; rfl
theorem oUpT_x : ∃ f, f = @aUpT := ⟨_, rfl⟩
noncomputable def oUpT := Classical.choose oUpT_x
theorem oUpT_s : @aUpT = oUpT := (Classical.choose_spec oUpT_x).symm
theorem oUpT_e {i j : Nat} {sp : ASp} {a : AVs} {E : XP} {A : AEnds} {fs : Fs} : oUpT i j sp a E A fs = a E fs (kCallU i j sp E A) := by rw [← oUpT_s]; rfl
end G

set_option maxHeartbeats 4000000
namespace G
open PySem PySem.Spec PyProof.Rows L2
/-! xs[::-1]; for x in reversed(xs) -/
def kRev (Q : Rx → Fs → Prop) (x : Vx) (fs1 : Fs) : Prop := match x.at fs1 with
  | some (.lst ds) => Q (.fr (.lst ds.reverse)) fs1
  | _ => False
def aRev (a : AX) (E : XP) (fs : Fs) (Q : Rx → Fs → Prop) : Prop := aV a E fs (kRev Q)
def kIRv (Q : List D → Fs → Prop) (d : D) (fs1 : Fs) : Prop := match d with
  | .lst ds => Q ds.reverse fs1
  | .tup ds => Q ds.reverse fs1
  | _ => False
def aIRv (a : AX) (E : XP) (fs : Fs) (Q : List D → Fs → Prop) : Prop := aD a E fs (kIRv Q)
section
variable {X : Cx} {Ec : L2.St → XK} {tg e : Expr} {a : AX} {pos p p1 p2 p3 : Pos}
theorem ex_rev {k : Nat} (h : EX X Ec e a) : EX X Ec (.Subscript e (.Slice none none (some (.UnaryOp .USub (.Constant (.int 1) k p1) p2)) p3) pos) (aRev a) := EXt.x ⟨pe_revL h.p, fun c σ W fs E Q Q' F A ha kk => by
  refine h.s.v c σ W fs E _ _ F A ha fun v x W1 fs1 l1 F1 k1 q1 => ?_
  unfold kRev at q1
  split at q1
  · rename_i ds e1
    obtain ⟨p, vs, rfl, hq, r⟩ := (Vw.of F1 k1 e1).lst
    refine ⟨p, vs, rfl, hq, fun q nq => ?_⟩
    have ex : Exs W1.H (upd W1.H q (.lst vs.reverse)) := Exs.new nq
    refine kk _ (.fr (.lst ds.reverse)) ⟨_, W1.F⟩ fs1 (l1.trans (Le.grow ex F1.dF)) (F1.grow ex) ?_ q1
    exact F1.zx (z := .fr (.lst ds.reverse)) ex ⟨q, rfl, nq, fun f => F1.dF q f nq, vs.reverse, upd_same, (r.mono (Le.grow ex F1.dF)).rev⟩
  · exact q1.elim⟩
theorem rev_at {α : Type} {xs : List α} {i : Nat} (h : i < xs.length) : xs.reverse[i]? = xs[xs.length - 1 - i]? := List.getElem?_reverse h
theorem ix_rev (h : EX X Ec e a) (hm : X.mg "reversed" = none) (hg : Gl X "reversed" := by rfl) (hs : starEach [e] X.env = (false, eval e X.env) :: starEach [] X.env := by rfl) : IX X Ec tg (.Call (.Name "reversed" p) [e] [] pos) (aIRv a) := IXt.x ⟨RT.pi_revA hg hm h.p hs, fun c σ W fs E R Q' F A ha k => by
  refine h.s.dd c σ W fs E _ _ F A ha fun v d W1 fs1 l1 F1 r1 q1 => ?_
  unfold kIRv at q1
  split at q1
  · rename_i ds
    obtain ⟨p, vs, rfl, st, r⟩ := rep_lst r1
    have hl := r.len
    refine ⟨p, vs, rfl, .inl ⟨st W1 (Le.refl W1), k _ ds.reverse W1 fs1 l1 F1 ⟨fun i W2 l hi => ?_, fun i W2 l hi => ?_, fun i W2 x H' l dF y hi => ?_⟩ q1⟩⟩
    · rw [List.length_reverse] at hi
      exact ⟨by omega, vs, _, st W2 l, List.getElem?_eq_getElem (by omega)⟩
    · rw [List.length_reverse] at hi
      show vs.length ≤ i
      omega
    · rw [List.length_reverse] at hi
      obtain ⟨rfl, y⟩ := y
      obtain ⟨d, e1, e2⟩ := r.get' (y vs (st W2 l))
      refine ⟨d, ?_, Exs.refl _, e2.mono l⟩
      rw [rev_at hi, ← hl]; exact e1
  · rename_i ds
    cases r1 with
    | @tup p vs _ hq r =>
    have st : ∀ W2, Le W1 W2 → SqT X.K W2.H p vs := fun W2 l => l.sqT hq
    have hl := r.len
    refine ⟨p, vs, rfl, .inr ⟨hq, k _ ds.reverse W1 fs1 l1 F1 ⟨fun i W2 l hi => ?_, fun i W2 l hi => ?_, fun i W2 x H' l dF y hi => ?_⟩ q1⟩⟩
    · rw [List.length_reverse] at hi
      exact ⟨by omega, vs, _, st W2 l, List.getElem?_eq_getElem (by omega)⟩
    · rw [List.length_reverse] at hi
      show vs.length ≤ i
      omega
    · rw [List.length_reverse] at hi
      obtain ⟨rfl, y⟩ := y
      obtain ⟨d, e1, e2⟩ := r.get' (y vs (st W2 l))
      refine ⟨d, ?_, Exs.refl _, e2.mono l⟩
      rw [rev_at hi, ← hl]; exact e1
  · exact q1.elim⟩
end
/-! dict(xs), dict(d), d.update(e) -/
def pairsD : List D → Option (List (Key × D))
  | [] => some []
  | .tup [k, d] :: r => match keyD k, pairsD r with
    | some kk, some l => some ((kk, d) :: l)
    | _, _ => none
  | _ => none
def mgP (s : List Key × List D) (ms : List (Key × D)) : List Key × List D := ms.foldl (fun s p => (putKs p.1 s.1, putDs p.1 p.2 s.1 s.2)) s
theorem mg_keys {K : PySem.W.Frag} {W : Wd} : ∀ {more : List (Key × V)} {ms : List (Key × D)}, more.map (·.1) = ms.map (·.1) → Reps K W (more.map (·.2)) (ms.map (·.2)) → ∀ {kvs : List (Key × V)} {ds : List D}, Reps K W (kvs.map (·.2)) ds →
    (mergeK kvs more).map (·.1) = (mgP (kvs.map (·.1), ds) ms).1 ∧ Reps K W ((mergeK kvs more).map (·.2)) (mgP (kvs.map (·.1), ds) ms).2
  | [], [], _, _, kvs, ds, r => ⟨rfl, r⟩
  | [], _ :: _, e, _, _, _, _ => by cases e
  | _ :: _, [], e, _, _, _, _ => by cases e
  | p :: more, m :: ms, e, rm, kvs, ds, r => by
    simp only [List.map_cons, List.cons.injEq] at e
    cases rm with
    | cons r1 r2 =>
    obtain ⟨h1, h2⟩ := put_keys r1 (k := p.1) r
    have := mg_keys e.2 r2 h2
    rw [h1] at this
    have e1 : mergeK kvs (p :: more) = mergeK (putK kvs p.1 p.2) more := rfl
    have e2 : mgP (kvs.map (·.1), ds) (m :: ms) = mgP (putKs p.1 (kvs.map (·.1)), putDs p.1 m.2 (kvs.map (·.1)) ds) ms := by
      show mgP (putKs m.1 (kvs.map (·.1)), putDs m.1 m.2 (kvs.map (·.1)) ds) ms = _
      rw [← e.1]
    rw [e1, e2]
    exact this
theorem pairs_rep {K : PySem.W.Frag} {W : Wd} : ∀ {vs : List V} {ds : List D} {ms : List (Key × D)}, Reps K W vs ds → pairsD ds = some ms →
    ∃ (ps : List Addr) (kvs : List (Key × V)), vs = ps.map V.ref ∧ Paired (fun p kv => SqT K W.H p [L2.kV kv.1, kv.2]) ps kvs ∧ kvs.map (·.1) = ms.map (·.1) ∧ Reps K W (kvs.map (·.2)) (ms.map (·.2))
  | _, _, ms, .nil, e => by cases e; exact ⟨[], [], rfl, .nil, rfl, .nil⟩
  | _, _, ms, .cons (d := d) h r, e => by
    unfold pairsD at e
    split at e
    · rename_i h0; cases h0
    · rename_i k x ds' h0
      injection h0 with h1 h2
      subst h1 h2
      split at e
      · rename_i kk l e1 e2
        cases e
        obtain ⟨ps, kvs, p1, p2, p3, p4⟩ := pairs_rep r e2
        cases h with
        | @tup p us _ hq ru =>
        cases ru with
        | cons r1 r2 => cases r2 with
          | cons r2 r3 => cases r3 with
            | nil =>
          have ek := keyD_view (.inl r1) e1
          subst ek
          exact ⟨p :: ps, (kk, _) :: kvs, by rw [p1]; rfl, .cons hq p2, by rw [List.map_cons, List.map_cons, p3], .cons r2 p4⟩
      · cases e
    · cases e
def faDict (d : D) (Q : Zx → Prop) : Prop := match d with
  | .dct ks ds => Q (.fr (.dct ks ds))
  | .lst xs => match pairsD xs with
    | some ms => Q (.fr (.dct (mgP ([], []) ms).1 (mgP ([], []) ms).2))
    | none => False
  | _ => False
def rDictA (K : PySem.W.Frag) : List V → Hp → VK → Prop := fun xs H Q => (∃ (a : Addr) (kvs : List (Key × V)), xs = [.ref a] ∧ Rd H a (.dK kvs) ∧ ∀ p, H p = none → Q (.ref p) (upd H p (.dK kvs))) ∨
  ∃ (a : Addr) (ps : List Addr) (kvs : List (Key × V)), xs = [.ref a] ∧ SqL K H a (ps.map V.ref) ∧ Paired (fun p kv => SqT K H p [L2.kV kv.1, kv.2]) ps kvs ∧ ∀ p, H p = none → Q (.ref p) (upd H p (.dK (mergeK [] kvs)))
theorem call_dictA {X : Cx} (hc : X.calm = true) : CallR X (.type "dict") (rDictA X.K) := fun pins s σ H xs us Q I r q => by
  rcases q with q | q
  · exact call_dictD pins s σ H xs us Q I r q
  · exact call_dictP hc pins s σ H xs us Q I r q
theorem opn_dict {K : PySem.W.Frag} : Opn K (rDictA K) (ar1 faDict) := opn1 fun W v d Q Q' dF hv h k => by
  unfold faDict at h
  split at h
  · rename_i ks ds
    obtain ⟨a, kvs, rfl, q, n, r⟩ := hv.dct
    exact .inl ⟨a, kvs, rfl, .inl q, fun l nl => k _ (.fr (.dct ks ds)) _ (Exs.new nl) ⟨l, rfl, nl, fun f => dF l f nl, kvs, upd_same, n, r.mono (Le.grow (Exs.new nl) dF)⟩ h⟩
  · split at h
    · rename_i ms e
      obtain ⟨a, vs, rfl, hq, r⟩ := hv.lst
      obtain ⟨ps, kvs, rfl, hp, h1, h2⟩ := pairs_rep r e
      obtain ⟨m1, m2⟩ := mg_keys h1 h2 (kvs := []) (ds := []) .nil
      exact .inr ⟨a, ps, kvs, rfl, hq, hp, fun l nl => k _ (.fr (.dct _ _)) _ (Exs.new nl) ⟨l, rfl, nl, fun f => dF l f nl, mergeK [] kvs, upd_same, m1, m2.mono (Le.grow (Exs.new nl) dF)⟩ h⟩
    · exact h.elim
  · exact h.elim
def rUpd : V → List V → Hp → VK → Prop := fun x vs H Q => ∃ (a b : Addr) (kvs more : List (Key × V)), x = .ref a ∧ vs = [.ref b] ∧ a ≠ b ∧ H a = some (.dK kvs) ∧ Rd H b (.dK more) ∧ kvs.length + more.length ≤ sizeLine ∧ Q .non (upd H a (.dK (mergeK kvs more)))
theorem mt_upd {X : Cx} : MtM X "dict.update" rUpd := by
  intro pins s σ H x vs v us Q I rx rv h
  obtain ⟨a, b, kvs, more, rfl, rfl, hab, hH, hB, hz, q⟩ := h
  cases rx
  obtain ⟨u, rfl, ru⟩ := rv.one
  cases ru
  obtain ⟨z, hd, ws, rel, dd⟩ := dk_of I.hok hH
  obtain ⟨z2, hd2, ws2, rel2, dd2⟩ := dk_rd I.hok hB
  refine call_meetsIn PySem.F.slot_dict_update dd.typeIs PySem.F.entry_dict_update (PySem.F.args_dict_update_2 _ _) (meets_dict_update (mixKind X.prog X.w) a b hab hd2) ⟨ws, ws2, dd, dd2, by rw [← rel.length, ← rel2.length]; exact hz, fun h' dd' _ hs => ⟨.non, _, d_write I (by rw [hH]; exact True.intro) hs (by obtain ⟨o, e, _⟩ := Heap.dictOf_iff.mp dd'; exact ⟨o, e⟩) (dk_new (Nat.le_trans (length_mergeK more kvs) hz) hd (KV.merge rel2 rel) dd'), rfl, q⟩⟩
def amUpd (d : D) (es : List D) (Q : D → D → Prop) : Prop := match d, es with
  | .dct ks ds, [.dct ks2 ds2] => ks.length + ks2.length ≤ sizeLine ∧ ks2.length = ds2.length ∧ Q (.dct (mgP (ks, ds) (ks2.zip ds2)).1 (mgP (ks, ds) (ks2.zip ds2)).2) .non
  | _, _ => False
theorem mut_upd {K : PySem.W.Frag} : MutS K rUpd amUpd := fun W a vs d ds Q Q' dF nf ct r h k => by
  unfold amUpd at h
  split at h
  · rename_i ks dd ks2 ds2
    obtain ⟨kvs, q, n, ru⟩ := ct
    cases r with
    | cons r1 r2 => cases r2 with
      | nil =>
      cases r1 with
      | @dct b kvs2 _ fb qb rb =>
      obtain ⟨h0, h1, h2⟩ := h
      have hl := rb.len
      have e1 : kvs2.map (·.1) = ((kvs2.map (·.1)).zip ds2).map (·.1) := (List.map_fst_zip (by rw [h1]; exact Nat.le_refl _)).symm
      have e2 : ((kvs2.map (·.1)).zip ds2).map (·.2) = ds2 := List.map_snd_zip (by rw [h1]; exact Nat.le_refl _)
      obtain ⟨m1, m2⟩ := mg_keys e1 (by rw [e2]; exact rb) ru
      subst n
      refine ⟨a, b, kvs, kvs2, rfl, rfl, fun e => nf (e ▸ fb), q, .inl qb, by rw [List.length_map, List.length_map] at h0; exact h0, ?_⟩
      exact k .non .non (.dct _ _) _ ⟨_, upd_same, m1, m2.mono (Le.write q trivial nf)⟩ .non h2
  · exact h.elim
/-! z.join(xs), str(z) -/
def faJoin (z : Str) (ds : List D) (Q : Zx → Prop) : Prop := match ds with
  | [.lst xs] => ∃ ys : List Str, xs = ys.map D.str ∧ (ys.map (·.length)).sum + ys.length * z.length ≤ 16777216 ∧ Q (.dt (.str (Txt.join z ys)))
  | _ => False
theorem ms_join {K : PySem.W.Frag} : MsS K (fun x xs H Q => ∃ a p, ∃ ys : List Str, x = .str a ∧ xs = [.ref p] ∧ (SqL K H p (ys.map V.str) ∨ SqT K H p (ys.map V.str)) ∧ (ys.map (·.length)).sum + ys.length * a.length ≤ 16777216 ∧ Q (.str (Txt.join a ys)) H) faJoin := by
  intro W z vs ds Q Q' hF hv h k
  unfold faJoin at h
  split at h
  · obtain ⟨ys, rfl, hz, q⟩ := h
    obtain ⟨v, rfl, hw⟩ := hv.one
    obtain ⟨p, us, rfl, hq, r⟩ := hw.lst
    have e := reps_strs r
    subst e
    exact ⟨z, p, ys, rfl, rfl, .inl hq, hz, k _ (.dt _) W.H (Exs.refl _) (.str _) q⟩
  · exact h.elim
def faStrA (d : D) (Q : Zx → Prop) : Prop := match d with
  | .int i => i.natAbs.log2 < 1920 ∧ Q (.dt (.str (toString i)))
  | .str z => Q (.dt (.str z))
  | _ => False
def rStrA : List V → Hp → VK → Prop := fun xs H Q => (∃ i : Int, xs = [.int i] ∧ i.natAbs.log2 < 1920 ∧ Q (.str (toString i)) H) ∨ ∃ a, xs = [.str a] ∧ Q (.str a) H
theorem call_strA {X : Cx} : CallR X (.type "str") rStrA := fun pins s σ H xs us Q I r q => by
  rcases q with q | q
  · exact call_str_int pins s σ H xs us Q I r q
  · exact SkE.call_str_str pins s σ H xs us Q I r q
theorem opn_strA {K : PySem.W.Frag} : Opn K rStrA (ar1 faStrA) := opn1 fun W v d Q Q' dF hv h k => by
  unfold faStrA at h
  split at h
  · cases hv.int
    exact .inl ⟨_, rfl, h.1, k _ (.dt _) W.H (Exs.refl _) (.str _) h.2⟩
  · cases hv.str
    exact .inr ⟨_, rfl, k _ (.dt _) W.H (Exs.refl _) (.str _) h⟩
  · exact h.elim
theorem oRev_x : ∃ f, f = @aRev := ⟨_, rfl⟩
noncomputable def oRev := Classical.choose oRev_x
theorem oRev_s : @aRev = oRev := (Classical.choose_spec oRev_x).symm
theorem oRev_e {a : AX} {E : XP} {fs : Fs} {Q : Rx → Fs → Prop} : oRev a E fs Q = oV a E fs (kRev Q) := by rw [← oRev_s, ← oV_s]; rfl
theorem oIRv_x : ∃ f, f = @aIRv := ⟨_, rfl⟩
noncomputable def oIRv := Classical.choose oIRv_x
theorem oIRv_s : @aIRv = oIRv := (Classical.choose_spec oIRv_x).symm
theorem oIRv_e {a : AX} {E : XP} {fs : Fs} {Q : List D → Fs → Prop} : oIRv a E fs Q = oD a E fs (kIRv Q) := by rw [← oIRv_s, ← oD_s]; rfl
end G

set_option maxHeartbeats 4000000
namespace G
open PySem PySem.Spec PyProof.Rows L2
/-! own classes: fields, methods, new instances -/
def FOk (K : PySem.W.Frag) (C : Addr) (f : Str) : Prop := Cls K C ∧ NoAttr K C f
def lookN (f : Str) : List Str → List D → Option D
  | n :: ns, d :: ds => if f = n then some d else lookN f ns ds
  | _, _ => none
def putN (f : Str) : List Str → List Str
  | [] => [f]
  | n :: ns => if n = f then n :: ns else n :: putN f ns
def putO (f : Str) (z : D) : List Str → List D → List D
  | n :: ns, d :: ds => if n = f then z :: ds else d :: putO f z ns ds
  | _, _ => [z]
theorem lookN_cons {f n : Str} {ns : List Str} {d : D} {ds : List D} : lookN f (n :: ns) (d :: ds) = if f = n then some d else lookN f ns ds := rfl
theorem lookN_nil {f : Str} {ds : List D} : lookN f [] ds = none := rfl
theorem putN_cons {f n : Str} {ns : List Str} : putN f (n :: ns) = if n = f then n :: ns else n :: putN f ns := rfl
theorem putN_nil {f : Str} : putN f [] = [f] := rfl
theorem putO_cons {f n : Str} {z d : D} {ns : List Str} {ds : List D} : putO f z (n :: ns) (d :: ds) = if n = f then z :: ds else d :: putO f z ns ds := rfl
theorem putO_nil {f : Str} {z : D} : putO f z [] [] = [z] := rfl
theorem Vw.obj {K : PySem.W.Frag} {W : Wd} {v : V} {C : Addr} {ns : List Str} {ds : List D} (h : Vw K W v (.obj C ns ds)) : ∃ (a dx : Addr) (fs : List (Str × V)), v = .ref a ∧ W.H a = some (.ins C dx fs) ∧ fs.map (·.1) = ns ∧ Reps K W (fs.map (·.2)) ds := by
  rcases h with h | ⟨a, rfl, dx, fs, q, n, r⟩
  · cases h with
    | obj f q r => exact ⟨_, _, _, rfl, q, rfl, r⟩
  · exact ⟨a, dx, fs, rfl, q, n, r⟩
theorem lookN_view {K : PySem.W.Frag} {W : Wd} {f : Str} {z : D} : ∀ {fs : List (Str × V)} {ds : List D}, Reps K W (fs.map (·.2)) ds → lookN f (fs.map (·.1)) ds = some z → ∃ v, fs.lookup f = some v ∧ Rep K W v z
  | [], _, _, e => by cases e
  | (n, v) :: r, [], h, _ => by cases h
  | (n, v) :: r, d :: ds, h, e => by
    cases h with
    | cons h1 h2 =>
    have e2 : (if f = n then some d else lookN f (r.map (·.1)) ds) = some z := e
    by_cases hn : f = n
    · rw [if_pos hn] at e2
      cases e2
      exact ⟨v, by rw [List.lookup, beq_iff_eq.mpr hn], h1⟩
    · rw [if_neg hn] at e2
      obtain ⟨u, h3, h4⟩ := lookN_view h2 e2
      exact ⟨u, by rw [List.lookup, beq_eq_false_iff_ne.mpr hn]; exact h3, h4⟩
theorem put_view {K : PySem.W.Frag} {W : Wd} {f : Str} {z : D} {y : V} (hz : Rep K W y z) : ∀ {fs : List (Str × V)} {ds : List D}, Reps K W (fs.map (·.2)) ds →
    (putF f y fs).map (·.1) = putN f (fs.map (·.1)) ∧ Reps K W ((putF f y fs).map (·.2)) (putO f z (fs.map (·.1)) ds)
  | [], ds, h => by cases h; exact ⟨rfl, .cons hz .nil⟩
  | (n, v) :: r, [], h => by cases h
  | (n, v) :: r, d :: ds, h => by
    cases h with
    | cons h1 h2 =>
    have e1 : putF f y ((n, v) :: r) = if n = f then (n, y) :: r else (n, v) :: putF f y r := rfl
    rw [e1, List.map_cons, putN_cons, putO_cons]
    by_cases hn : n = f
    · rw [if_pos hn, if_pos hn, if_pos hn]
      exact ⟨rfl, .cons hz h2⟩
    · rw [if_neg hn, if_neg hn, if_neg hn]
      obtain ⟨h3, h4⟩ := put_view hz h2
      exact ⟨by rw [List.map_cons, h3], .cons h1 h4⟩
def kFld (K : PySem.W.Frag) (f : Str) (Q : Rx → Fs → Prop) (x : Vx) (fs1 : Fs) : Prop := match x.at fs1 with
  | some (.obj C ns ds) => FOk K C f ∧ match lookN f ns ds with
    | some z => Q (.dt z) fs1
    | none => False
  | _ => False
def aFld (K : PySem.W.Frag) (f : Str) (a : AX) (E : XP) (fs : Fs) (Q : Rx → Fs → Prop) : Prop := aV a E fs (kFld K f Q)
def kFs (K : PySem.W.Frag) (f : Str) (i : Nat) (A : AEnds) (z : D) (fs1 : Fs) : Prop := match fs1[i]? with
  | some (.own p (.obj C ns ds)) => (FOk K C f ∧ ns.length < 1000) ∧ A.nx (fs1.set i (.own p (.obj C (putN f ns) (putO f z ns ds))))
  | _ => False
def aFs (K : PySem.W.Frag) (f : Str) (i : Nat) (a : AX) (E : XP) (A : AEnds) (fs : Fs) : Prop := aD a E fs (kFs K f i A)
def kFa2 (C : Addr) (f : Str) (i : Nat) (A : AEnds) (n : Int) (y : D) (fs1 : Fs) : Prop := match y, fs1[i]? with
  | .int m, some (.own p (.obj C2 ns ds)) => (C2 = C ∧ ns.length < 1000) ∧ A.nx (fs1.set i (.own p (.obj C (putN f ns) (putO f (.int (n + m)) ns ds))))
  | _, _ => False
def kFa1 (C : Addr) (f : Str) (i : Nat) (a : AX) (E : XP) (A : AEnds) (z : D) (fs : Fs) : Prop := match z with
  | .int n => aD a E fs (kFa2 C f i A n)
  | _ => False
def aFa (K : PySem.W.Frag) (f : Str) (i : Nat) (a : AX) (E : XP) (A : AEnds) (fs : Fs) : Prop := match fs[i]? with
  | some (.own _ (.obj C ns ds)) => FOk K C f ∧ match lookN f ns ds with
    | some z => kFa1 C f i a E A z fs
    | none => False
  | _ => False
section
variable {X : Cx} {Ec : L2.St → XK} {e value : Expr} {f : Str} {x : Str} {a b : AX} {pos pos' p : Pos}
theorem ex_fld (h : EX X Ec e a) (hb : attributeBase e f X.env (eval e X.env) = eval e X.env := by rfl) : EX X Ec (.Attribute e f pos) (aFld X.K f a) := EXt.x ⟨pe_fld h.p hb, fun c σ W fs E Q Q' F A ha k => by
  refine h.s.v c σ W fs E _ _ F A ha fun v r W1 fs1 l1 F1 k1 q1 => ?_
  unfold kFld at q1
  split at q1
  · rename_i C ns ds e1
    obtain ⟨⟨hc, hn⟩, q1⟩ := q1
    split at q1
    · rename_i z ez
      obtain ⟨ad, dx, gs, rfl, hH, hns, hr⟩ := (Vw.of F1 k1 e1).obj
      subst hns
      obtain ⟨u, hu, ru⟩ := lookN_view hr ez
      exact ⟨ad, C, dx, gs, u, rfl, hH, hc, hn, hu, k u (.dt z) W1 fs1 l1 F1 ru q1⟩
    · exact q1.elim
  · exact q1.elim⟩
/-- a slot's thing is written at a field -/
theorem fld_write {K : PySem.W.Frag} {c : Cn} {σ : L2.St} {W : Wd} {fs : Fs} {ad : Nat → Addr} {i : Nat} {p : Bool} {C : Addr} {ns : List Str} {ds : List D} {y : V} {z : D} (q : FrA K c σ W fs ad) (ei : fs[i]? = some (.own p (.obj C ns ds))) (hz : Rep K W y z) :
    ∃ (dx : Addr) (gs : List (Str × V)), W.H (ad i) = some (.ins C dx gs) ∧ gs.length = ns.length ∧ Le W ⟨upd W.H (ad i) (.ins C dx (putF f y gs)), W.F⟩ ∧
      Fr K c σ ⟨upd W.H (ad i) (.ins C dx (putF f y gs)), W.F⟩ (fs.set i (.own p (.obj C (putN f ns) (putO f z ns ds)))) := by
  obtain ⟨e1, nf, ct⟩ := q.own ei
  obtain ⟨dx, gs, hH, hns, hr⟩ := id ct
  subst hns
  have l := Le.write (W := W) (a := ad i) (o' := .ins C dx (putF f y gs)) hH trivial nf
  refine ⟨dx, gs, hH, by rw [List.length_map], l, ad, q.write ei ?_⟩
  obtain ⟨p1, p2⟩ := put_view (f := f) hz hr
  exact ⟨dx, _, upd_same, p1, p2.mono l⟩
theorem sx_fld (i : Nat) (h : EX X Ec value a) (hN : X.N[i]? = some x := by rfl) (hv : Vis X.env.scope x := by first | exact Or.inl rfl | exact Or.inr (Or.inl rfl) | exact Or.inr (Or.inr rfl)) (hd : (x == ("__debug__" : Str)) = false := by decide)
    (hcd : (x == ("__classdict__" : Str)) = false := by decide) (hs : swapsWith value (some (.Attribute (.Name x p) f pos')) pos.line X.env = pure false := by rfl) :
    SX X Ec (.Assign [.Attribute (.Name x p) f pos'] value pos) (aFs X.K f i a) := SXt.x ⟨ps_fld (pe_var hN hv hd hcd) h.p hs, fun c σ W fs E D A F ad0 ha kk => by
  refine h.s.dd c σ W fs E _ _ F ad0 ha fun v d W1 fs1 l1 F1 r1 q1 => ?_
  unfold kFs at q1
  split at q1
  · rename_i p C ns ds ei
    obtain ⟨⟨⟨hc, hn⟩, hl⟩, q1⟩ := q1
    obtain ⟨ad, q⟩ := F1
    obtain ⟨dx, gs, hH, hgl, l2, F2⟩ := fld_write (f := f) q ei r1
    exact ⟨_, (q.own ei).1, ad i, C, dx, gs, rfl, hH, hc, hn, by rw [hgl]; exact hl, kk.nx σ _ _ (l1.trans l2) F2 q1⟩
  · exact q1.elim⟩
theorem sx_fldaug (i : Nat) (h : EX X Ec value a) (hN : X.N[i]? = some x := by rfl) (hv : Vis X.env.scope x := by first | exact Or.inl rfl | exact Or.inr (Or.inl rfl) | exact Or.inr (Or.inr rfl)) (hd : (x == ("__debug__" : Str)) = false := by decide)
    (hcd : (x == ("__classdict__" : Str)) = false := by decide) : SX X Ec (.AugAssign (.Attribute (.Name x p) f pos') .Add value pos) (aFa X.K f i a) := SXt.x ⟨ps_fldaug (pe_var hN hv hd hcd) h.p in_add, fun c σ W fs E D A F ad0 ha kk => by
  unfold aFa at ha
  split at ha
  · rename_i p0 C ns ds ei
    obtain ⟨⟨hc, hn⟩, ha⟩ := ha
    split at ha
    · rename_i z ez
      unfold kFa1 at ha
      split at ha
      · rename_i n
        obtain ⟨ad, q⟩ := id F
        obtain ⟨e1, nf, ct⟩ := q.own ei
        obtain ⟨dx, gs, hH, hns, hr⟩ := id ct
        subst hns
        obtain ⟨u, hu, ru⟩ := lookN_view hr ez
        cases ru
        refine ⟨_, e1, ad i, C, dx, gs, .int n, rfl, hH, hc, hn, hu, ?_⟩
        refine h.s.dd c σ W fs E _ _ F ad0 ha fun v d W1 fs1 l1 F1 r1 q1 => ?_
        unfold kFa2 at q1
        split at q1
        · rename_i m p2 C2 ns2 ds2 ei2
          cases r1
          obtain ⟨⟨rfl, hl2⟩, q1⟩ := q1
          obtain ⟨ad2, q2⟩ := F1
          obtain ⟨dx2, gs2, hH2, hgl2, l2, F2⟩ := fld_write (f := f) q2 ei2 (.int (n + m))
          have ea : ad i = ad2 i := by
            have e2 := (q2.own ei2).1
            rw [e1] at e2
            simpa using e2
          rw [← ea] at hH2 l2 F2
          exact ⟨n, m, rfl, rfl, dx2, gs2, hH2, by rw [hgl2]; exact hl2, kk.nx σ _ _ (l1.trans l2) F2 q1⟩
        · exact q1.elim
      · exact ha.elim
    · exact ha.elim
  · exact ha.elim⟩
end
/-! o.m(..) -/
def kMA (sp : ASp) (E : XP) (Q : Rx → Fs → Prop) (r : Vx) (rs : List Vx) (fs2 : Fs) : Prop := kCall sp E Q (r :: rs) fs2
def kMR (C : Addr) (m : Str) (sp : ASp) (args : AVs) (E : XP) (Q : Rx → Fs → Prop) (r : Vx) (fs1 : Fs) : Prop := match r.at fs1 with
  | some (.obj C2 ns _) => (C2 = C ∧ ns.contains m = false) ∧ args E fs1 (kMA sp E Q r)
  | _ => False
def aMeth (C : Addr) (m : Str) (sp : ASp) (a : AX) (args : AVs) (E : XP) (fs : Fs) (Q : Rx → Fs → Prop) : Prop := aV a E fs (kMR C m sp args E Q)
/-- behind a call -/
theorem call_q {K : PySem.W.Frag} {c : Cn} {σ : L2.St} {W W1 : Wd} {fs1 : Fs} {sp : ASp} {vs : List V} {rs : List Vx} {E : XP} {Q : VK} {Q' : Rx → Fs → Prop} {Ec : L2.St → XK} (l1 : Le W W1) (F1 : Fr K c σ W1 fs1) (A : AdX K c Ec E) (k1 : VsOk K W1 σ vs rs) (q1 : kCall sp E Q' rs fs1)
    (k : ∀ v r W' fs', Le W W' → Fr K c σ W' fs' → RxOk K c W' σ fs' v r → Q' r fs' → Q v W'.H) : spOf K sp vs W1.H Q (Ec σ) := by
  unfold kCall at q1
  split at q1
  · rename_i args ap ea
    refine call_any F1 k1 ap ea q1 (fun v r args' W' l F' ro qq => ?_) fun cls od xf W' fs' F' xk q => A σ W' fs' cls od xf F' xk q
    unfold kRes at qq
    cases r with
    | un => exact ro.elim
    | tp _ _ => exact qq.elim
    | dat d => exact k v (.dt d) W' _ (l1.trans l) F' ro qq
    | own p d =>
      cases p with
      | true => exact ro.elim
      | false =>
        obtain ⟨p, rfl, n, nf, ct⟩ := ro
        refine k _ (.fr d) W' _ (l1.trans l) F' ⟨p, rfl, F1.new0 n, nf, ct, fun i b x ei z => ?_, F1.newK n⟩ qq
        rcases backs_get rs args' fs1 i _ ei with ⟨y1, _⟩ | ⟨j, b', y, d', _, y2, _, y4⟩
        · exact F1.newS n y1 z
        · exact F1.newS n y2 z
  · exact q1.elim
theorem look_none {m : Str} : ∀ {gs : List (Str × V)}, (gs.map (·.1)).contains m = false → gs.lookup m = none
  | [], _ => rfl
  | (n, v) :: r, h => by
    rw [List.map_cons, List.contains_cons, Bool.or_eq_false_iff] at h
    rw [List.lookup, h.1]
    exact look_none h.2
structure MeF (K : PySem.W.Frag) (C : Addr) (m qual : Str) (st : Stmt) : Prop where
  ex : ∃ f fd, Fun K m qual st f fd ∧ Meth K C m f
structure MeC (P : Program) (w : World) (K : PySem.W.Frag) (mg : Str → Option Value) (base : Heap) (CX : CXT) (k : Nat) (C : Addr) (m : Str) (sp : ASp) : Prop where
  ex : ∃ f fd ps, FnOk P w K mg base CX k f fd ps (spOf K sp) ∧ Meth K C m f ∧ Cls K C ∧ Binds K fd ps []
theorem MeC.mono {P : Program} {w : World} {K : PySem.W.Frag} {mg : Str → Option Value} {base : Heap} {CX : CXT} {j k : Nat} {C : Addr} {m : Str} {sp : ASp} (h : MeC P w K mg base CX j C m sp) (l : j ≤ k) : MeC P w K mg base CX k C m sp :=
  let ⟨f, fd, ps, h1, h2⟩ := h.ex; ⟨f, fd, ps, h1.mono l, h2⟩
theorem mec_of {P : Program} {w : World} {K : PySem.W.Frag} {mg : Str → Option Value} {base : Heap} {CX : CXT} {k : Nat} {C : Addr} {m qual : Str} {st : Stmt} {ps : List Str} {sp : ASp} (h : MeF K C m qual st) (cl : Cls K C)
    (hb : ∀ (kV doc pm : Value) (an : Option Addr) (cdv ct : Value) (us : List Value), us.length = ps.length → bindArgs (PySem.W.fnOf m qual (defArgs st) (defBody st) (defScope st) .none kV doc pm an cdv ct) ⟨us, []⟩ = pure (ps.zip us))
    (ok : ∀ f fd, Fun K m qual st f fd → FnOk P w K mg base CX k f fd ps (spOf K sp)) : MeC P w K mg base CX k C m sp := by
  obtain ⟨f, fd, F, hm⟩ := h.ex
  exact ⟨f, fd, ps, ok f fd F, hm, cl, F.binds hb⟩
section
variable {X : Cx} {C : Addr} {k : Nat} {m : Str} {sp : ASp} {o e : Expr} {es : List Expr} {a : AX} {as : List AX} {apos pos : Pos}
theorem ex_meth {pl : Sem Bool} (ho : EX X (fun _ => E0) o a) (hm : MeC X.prog X.w X.K X.mg X.base CX0 k C m sp) (hr : Room k X.A) (ha : EVs X (fun _ => E0) (e :: es) (aVs as))
    (hst : starEach (e :: es) X.env = (false, eval e X.env) :: starEach es X.env := by rfl) (hpl : (backTo pos (starEach es X.env)).any (·.1) = false := by rfl)
    (ht : eval (.Call (.Attribute o m apos) (e :: es) [] pos) X.env = (do
      let ov ← eval o X.env
      standAt apos.atName
      let (f, first) ← holding [ov] (getMethod ov m pl)
      callWith pos f first (backTo pos (starEach (e :: es) X.env)) (backToKw pos (keywordEach [] X.env))) := by rfl) :
    EX X (fun _ => E0) (.Call (.Attribute o m apos) (e :: es) [] pos) (aMeth C m sp a (aVs as)) := by
  obtain ⟨f, fd, ps, h1, h2, h3, h4⟩ := hm.ex
  refine EXt.x ⟨pe_meth (E := E0) ho.p h3 h2 h1 hr h4 .nil pass0 ha.p hst hpl ht, fun c σ W fs E Q Q' F A h k => ?_⟩
  refine ho.s.v c σ W fs E _ _ F A h fun v r W1 fs1 l1 F1 k1 q1 => ?_
  unfold kMR at q1
  split at q1
  · rename_i C2 ns ds e1
    obtain ⟨⟨rfl, hn⟩, q1⟩ := q1
    obtain ⟨ad, dx, gs, rfl, hH, hns, hrr⟩ := (Vw.of F1 k1 e1).obj
    subst hns
    refine ⟨ad, dx, gs, rfl, hH, look_none hn, ?_⟩
    refine ha.s c σ W1 fs1 E _ _ F1 A q1 fun vs rs W2 fs2 l2 F2 k2 q2 => ?_
    rw [List.append_nil]
    exact call_q (Ec := fun _ => E0) (l1.trans l2) F2 A (VsOk.cons (k1.mono l2) k2) q2 k
  · exact q1.elim
theorem ex_meth0 {pl : Sem Bool} (ho : EX X (fun _ => E0) o a) (hm : MeC X.prog X.w X.K X.mg X.base CX0 k C m sp) (hr : Room k X.A)
    (ht : eval (.Call (.Attribute o m apos) [] [] pos) X.env = (do
      let ov ← eval o X.env
      standAt apos.atName
      let (f, first) ← holding [ov] (getMethod ov m pl)
      callWith pos f first (backTo pos (starEach [] X.env)) (backToKw pos (keywordEach [] X.env))) := by rfl) :
    EX X (fun _ => E0) (.Call (.Attribute o m apos) [] [] pos) (aMeth C m sp a (aVs [])) := by
  obtain ⟨f, fd, ps, h1, h2, h3, h4⟩ := hm.ex
  refine EXt.x ⟨pe_meth0 (E := E0) ho.p h3 h2 h1 hr h4 .nil pass0 ht, fun c σ W fs E Q Q' F A h k => ?_⟩
  refine ho.s.v c σ W fs E _ _ F A h fun v r W1 fs1 l1 F1 k1 q1 => ?_
  unfold kMR at q1
  split at q1
  · rename_i C2 ns ds e1
    obtain ⟨⟨rfl, hn⟩, q1⟩ := q1
    obtain ⟨ad, dx, gs, rfl, hH, hns, hrr⟩ := (Vw.of F1 k1 e1).obj
    subst hns
    refine ⟨ad, dx, gs, rfl, hH, look_none hn, ?_⟩
    exact call_q (Ec := fun _ => E0) (vs := [.ref ad]) (rs := [r]) l1 F1 A k1 q1 k
  · exact q1.elim
end
/-! C(..) -/
def kMade (rs : List Vx) (fs1 : Fs) (Q : Rx → Fs → Prop) (r : Sl) (args' : List Sl) : Prop := match r, args' with
  | .dat .non, .own true d :: rest => Q (.fr d) (backs rs rest fs1)
  | _, _ => False
def kMake (C : Addr) (sp : ASp) (E : XP) (Q : Rx → Fs → Prop) (rs : List Vx) (fs1 : Fs) : Prop := match apart (loans fs1 rs), argsOf fs1 rs with
  | true, some args => sp (.own true (.obj C [] []) :: args) (kMade rs fs1 Q) (fun _ _ _ => False)
  | _, _ => False
def aMake (C : Addr) (sp : ASp) (a : AVs) (E : XP) (fs : Fs) (Q : Rx → Fs → Prop) : Prop := a E fs (kMake C sp E Q)
structure InF (K : PySem.W.Frag) (mg : Str → Option Value) (x : Str) (C : Addr) (qual : Str) (st : Stmt) : Prop where
  ex : ∃ f fd, Fun K "__init__" qual st f fd ∧ Mk K C f ∧ mg x = some (.ref C)
structure MkC (P : Program) (w : World) (K : PySem.W.Frag) (mg : Str → Option Value) (base : Heap) (CX : CXT) (k : Nat) (x : Str) (C : Addr) (sp : ASp) : Prop where
  ex : ∃ f fd ps, FnOk P w K mg base CX k f fd ps (spOf K sp) ∧ mg x = some (.ref C) ∧ Mk K C f ∧ Binds K fd ps []
theorem MkC.mono {P : Program} {w : World} {K : PySem.W.Frag} {mg : Str → Option Value} {base : Heap} {CX : CXT} {j k : Nat} {x : Str} {C : Addr} {sp : ASp} (h : MkC P w K mg base CX j x C sp) (l : j ≤ k) : MkC P w K mg base CX k x C sp :=
  let ⟨f, fd, ps, h1, h2⟩ := h.ex; ⟨f, fd, ps, h1.mono l, h2⟩
theorem mkc_of {P : Program} {w : World} {K : PySem.W.Frag} {mg : Str → Option Value} {base : Heap} {CX : CXT} {k : Nat} {x : Str} {C : Addr} {qual : Str} {st : Stmt} {ps : List Str} {sp : ASp} (h : InF K mg x C qual st)
    (hb : ∀ (kV doc pm : Value) (an : Option Addr) (cdv ct : Value) (us : List Value), us.length = ps.length → bindArgs (PySem.W.fnOf "__init__" qual (defArgs st) (defBody st) (defScope st) .none kV doc pm an cdv ct) ⟨us, []⟩ = pure (ps.zip us))
    (ok : ∀ f fd, Fun K "__init__" qual st f fd → FnOk P w K mg base CX k f fd ps (spOf K sp)) : MkC P w K mg base CX k x C sp := by
  obtain ⟨f, fd, F, hm, hx⟩ := h.ex
  exact ⟨f, fd, ps, ok f fd F, hx, hm, F.binds hb⟩
theorem make_q {K : PySem.W.Frag} {c : Cn} {σ : L2.St} {W W1 : Wd} {fs1 : Fs} {C : Addr} {sp : ASp} {vs : List V} {rs : List Vx} {E : XP} {Q : VK} {Q' : Rx → Fs → Prop} {EE : XK} (l1 : Le W W1) (F1 : Fr K c σ W1 fs1) (k1 : VsOk K W1 σ vs rs) (q1 : kMake C sp E Q' rs fs1)
    (k : ∀ v r W' fs', Le W W' → Fr K c σ W' fs' → RxOk K c W' σ fs' v r → Q' r fs' → Q v W'.H) (x dx : Addr) (nx : W1.H x = none) (nd : W1.H dx = none) (nex : dx ≠ x) :
    spOf K sp (.ref x :: vs) (upd (upd W1.H dx (.own x)) x (.ins C dx [])) (fun v H2 => v = .non ∧ Q (.ref x) H2) EE := by
  unfold kMake at q1
  split at q1
  · rename_i args ap ea
    obtain ⟨ad, q⟩ := id F1
    obtain ⟨al, ag⟩ := argsOf_get ea
    obtain ⟨vl, v1, v2⟩ := vsok_get k1
    have ex : Exs W1.H (upd (upd W1.H dx (.own x)) x (.ins C dx [])) := fun b o e => by
      rw [upd_ne (ne_of_none e nx), upd_ne (ne_of_none e nd)]; exact e
    have l2 : Le W1 ⟨upd (upd W1.H dx (.own x)) x (.ins C dx []), W1.F⟩ := Le.grow ex q.dF
    have nfx : ¬ W1.F x := fun f => q.dF x f nx
    have live : ∀ (m : Nat) (p : Bool) (d : D), fs1[m]? = some (.own p d) → W1.H (ad m) ≠ none := fun m p d e => by
      obtain ⟨o, ho, _⟩ := (q.own e).2.2.mut
      rw [ho]; simp
    refine ⟨W1.F, .own true (.obj C [] []) :: args, fun j => match j with | 0 => x | j + 1 => match rs[j]? with | some (.sl i) => ad i | _ => 0, _, _, ⟨by rw [List.length_cons, List.length_cons, vl, al], fun i v s ev es => ?_, fun i j d e e1 e2 ee => ?_, fun b f z => ?_⟩, q1, fun v r args' W' af ro qq => ?_, fun cls od xf args' W' af xk qq => qq.elim⟩
    · cases i with
      | zero =>
        have h1 : V.ref x = v := by simpa using ev
        have h2 : Sl.own true (.obj C [] []) = s := by simpa using es
        subst h1 h2
        exact ⟨rfl, nfx, dx, [], upd_same, rfl, .nil⟩
      | succ i =>
        rw [List.getElem?_cons_succ] at ev es
        show ArgOk K _ (match rs[i]? with | some (.sl i) => ad i | _ => 0) v s
        rcases ag i s es with ⟨d, z1, rfl⟩ | ⟨m, d, z1, z2, rfl⟩ | ⟨m, p, d, z1, z2, rfl⟩
        · exact (v1 i v d ev z1).mono l2
        · obtain ⟨w, e1, r⟩ := q.dat z2
          rw [v2 i m v ev z1] at e1
          cases e1
          exact r.mono l2
        · obtain ⟨e1, nf, ct⟩ := q.own z2
          rw [v2 i m v ev z1] at e1
          cases e1
          rw [z1]
          obtain ⟨o, ho, _⟩ := ct.mut
          exact ⟨rfl, nf, ct.mono l2 ((ex _ _ ho).trans ho.symm)⟩
    · cases i with
      | zero => cases j with
        | zero => rfl
        | succ j =>
          rw [List.getElem?_cons_succ] at e2
          rcases ag j _ e2 with ⟨_, _, z⟩ | ⟨_, _, _, _, z⟩ | ⟨m, p, y, z1, z2, z3⟩
          · cases z
          · cases z
          · have ee' : x = (match rs[j]? with | some (.sl i) => ad i | _ => 0) := ee
            rw [z1] at ee'
            have ee2 : x = ad m := ee'
            rw [ee2] at nx
            exact absurd nx (live m p y z2)
      | succ i => cases j with
        | zero =>
          rw [List.getElem?_cons_succ] at e1
          rcases ag i _ e1 with ⟨_, _, z⟩ | ⟨_, _, _, _, z⟩ | ⟨m, p, y, z1, z2, z3⟩
          · cases z
          · cases z
          · have ee' : (match rs[i]? with | some (.sl i) => ad i | _ => 0) = x := ee
            rw [z1] at ee'
            have ee2 : ad m = x := ee'
            rw [← ee2] at nx
            exact absurd nx (live m p y z2)
        | succ j =>
          rw [List.getElem?_cons_succ] at e1 e2
          have ee0 : (match rs[i]? with | some (.sl i) => ad i | _ => 0) = (match rs[j]? with | some (.sl i) => ad i | _ => 0) := ee
          rcases ag i _ e1 with ⟨_, _, z⟩ | ⟨_, _, _, _, z⟩ | ⟨m, p, y, z1, z2, z3⟩
          · cases z
          · cases z
          · rcases ag j _ e2 with ⟨_, _, z⟩ | ⟨_, _, _, _, z⟩ | ⟨m', p', y', y1, y2, y3⟩
            · cases z
            · cases z
            · rw [z1, y1] at ee0
              have := q.sep m m' _ _ _ _ z2 y2 ee0
              subst this
              rw [loans_inj z2 ap z1 y1]
    · have z' : (upd (upd W1.H dx (.own x)) x (.ins C dx [])) b = none := z
      cases hb : W1.H b with
      | none => exact q.dF b f hb
      | some o => rw [ex b o hb] at z'; cases z'
    · unfold kMade at qq
      split at qq
      · rename_i d rest
        cases ro
        obtain ⟨d', g1, g2, g3⟩ := af.own 0 _ rfl
        have hd : d = d' := by have : some (Sl.own true d) = some (Sl.own true d') := g1; cases this; rfl
        subst hd
        have af2 : AfterOk K W1 W' args rest (fun j => match rs[j]? with | some (.sl i) => ad i | _ => 0) := by
          refine ⟨l2.trans af.le, fun b o e no => ?_, fun b f => ?_, af.dF, by have := af.len; rw [List.length_cons, List.length_cons] at this; omega, fun i y e => ?_⟩
          · refine af.keep b o (ex b o e) fun i y ei z => ?_
            cases i with
            | zero => exact ne_of_none e nx (show x = b from z).symm
            | succ i => exact no i y (by rw [List.getElem?_cons_succ] at ei; exact ei) z
          · rcases af.nF b f with z | z
            · exact .inl z
            · refine .inr ?_
              cases hb : W1.H b with
              | none => rfl
              | some o =>
                have z' : (upd (upd W1.H dx (.own x)) x (.ins C dx [])) b = none := z
                rw [ex b o hb] at z'; cases z'
          · exact af.own (i + 1) y (by rw [List.getElem?_cons_succ]; exact e)
        refine ⟨rfl, k (.ref x) (.fr d) W' _ ((l1.trans l2).trans af.le) ⟨ad, fr_after (vs := vs) q ap ea af2⟩ ⟨x, rfl, F1.new0 nx, g2, g3, fun i b y ei z => ?_, F1.newK nx⟩ qq⟩
        rcases backs_get rs rest fs1 i _ ei with ⟨y1, _⟩ | ⟨j, b', y', d', _, y2, _, y4⟩
        · exact F1.newS nx y1 z
        · exact F1.newS nx y2 z
      · exact qq.elim
  · exact q1.elim
section
variable {X : Cx} {C : Addr} {k : Nat} {x : Str} {sp : ASp} {e : Expr} {es : List Expr} {as : List AX} {p pos : Pos}
theorem ex_make (hm : MkC X.prog X.w X.K X.mg X.base CX0 k x C sp) (hr : Room (k + 1) X.A) (ha : EVs X (fun _ => E0) (e :: es) (aVs as)) (hg : Gl X x := by rfl) (hdb : (x == ("__debug__" : Str)) = false := by decide)
    (he : starEach (e :: es) X.env = (false, eval e X.env) :: starEach es X.env := by rfl) (hpl : (backTo pos (starEach es X.env)).any (·.1) = false := by rfl) :
    EX X (fun _ => E0) (.Call (.Name x p) (e :: es) [] pos) (aMake C sp (aVs as)) := by
  obtain ⟨f, fd, ps, h1, h2, h3, h4⟩ := hm.ex
  refine EXt.x ⟨pe_make (E := E0) h3 h1 hr hg h2 h4 .nil pass0 ha.p hdb he hpl, fun c σ W fs E Q Q' F A h k => ?_⟩
  refine ha.s c σ W fs E _ _ F A h fun vs rs W1 fs1 l1 F1 k1 q1 => fun x dx nx nd nex => ?_
  rw [List.append_nil]
  exact make_q l1 F1 k1 q1 k x dx nx nd nex
theorem ex_make0 (hm : MkC X.prog X.w X.K X.mg X.base CX0 k x C sp) (hr : Room (k + 1) X.A) (hg : Gl X x := by rfl) (hdb : (x == ("__debug__" : Str)) = false := by decide) :
    EX X (fun _ => E0) (.Call (.Name x p) [] [] pos) (aMake C sp (aVs [])) := by
  obtain ⟨f, fd, ps, h1, h2, h3, h4⟩ := hm.ex
  refine EXt.x ⟨pe_make0 (E := E0) h3 h1 hr hg h2 h4 .nil pass0 hdb, fun c σ W fs E Q Q' F A h k => ?_⟩
  intro x dx nx nd nex
  exact make_q (E := E) (Le.refl W) F (vs := []) (rs := []) trivial h k x dx nx nd nex
end
theorem oFld_x : ∃ f, f = @aFld := ⟨_, rfl⟩
noncomputable def oFld := Classical.choose oFld_x
theorem oFld_s : @aFld = oFld := (Classical.choose_spec oFld_x).symm
theorem oFld_e {K : PySem.W.Frag} {f : Str} {a : AX} {E : XP} {fs : Fs} {Q : Rx → Fs → Prop} : oFld K f a E fs Q = oV a E fs (kFld K f Q) := by rw [← oFld_s, ← oV_s]; rfl
theorem oFs_x : ∃ f, f = @aFs := ⟨_, rfl⟩
noncomputable def oFs := Classical.choose oFs_x
theorem oFs_s : @aFs = oFs := (Classical.choose_spec oFs_x).symm
theorem oFs_e {K : PySem.W.Frag} {f : Str} {i : Nat} {a : AX} {E : XP} {A : AEnds} {fs : Fs} : oFs K f i a E A fs = oD a E fs (kFs K f i A) := by rw [← oFs_s, ← oD_s]; rfl
theorem oFa_x : ∃ f, f = @aFa := ⟨_, rfl⟩
noncomputable def oFa := Classical.choose oFa_x
theorem oFa_s : @aFa = oFa := (Classical.choose_spec oFa_x).symm
def kFa0 (K : PySem.W.Frag) (f : Str) (i : Nat) (a : AX) (E : XP) (A : AEnds) (fs : Fs) (s : Option Sl) : Prop := match s with
  | some (.own _ (.obj C ns ds)) => FOk K C f ∧ match lookN f ns ds with
    | some z => kFa1 C f i a E A z fs
    | none => False
  | _ => False
theorem oFa_e {K : PySem.W.Frag} {f : Str} {i : Nat} {a : AX} {E : XP} {A : AEnds} {fs : Fs} : oFa K f i a E A fs = kFa0 K f i a E A fs fs[i]? := by rw [← oFa_s]; rfl
theorem kFa1_e {C : Addr} {f : Str} {i : Nat} {a : AX} {E : XP} {A : AEnds} {n : Int} {fs : Fs} : kFa1 C f i a E A (.int n) fs = oD a E fs (kFa2 C f i A n) := by rw [← oD_s]; rfl
theorem oMeth_x : ∃ f, f = @aMeth := ⟨_, rfl⟩
noncomputable def oMeth := Classical.choose oMeth_x
theorem oMeth_s : @aMeth = oMeth := (Classical.choose_spec oMeth_x).symm
theorem oMeth_e {C : Addr} {m : Str} {sp : ASp} {a : AX} {args : AVs} {E : XP} {fs : Fs} {Q : Rx → Fs → Prop} : oMeth C m sp a args E fs Q = oV a E fs (kMR C m sp args E Q) := by rw [← oMeth_s, ← oV_s]; rfl
theorem oMake_x : ∃ f, f = @aMake := ⟨_, rfl⟩
noncomputable def oMake := Classical.choose oMake_x
theorem oMake_s : @aMake = oMake := (Classical.choose_spec oMake_x).symm
theorem oMake_e {C : Addr} {sp : ASp} {a : AVs} {E : XP} {fs : Fs} {Q : Rx → Fs → Prop} : oMake C sp a E fs Q = a E fs (kMake C sp E Q) := by rw [← oMake_s]; rfl
end G

set_option maxHeartbeats 4000000
namespace PySem
open Sem (wp)
open PySem.W (KdxIt kdx_alive)
section
variable {prog : Program} {w : World} {A : Around} {E : Value → Shared → Prop} {s : Shared} {z TI TO T i1 i2 : Addr} {fp1 fp2 : List Addr} {n1 n2 i : Nat} {P1 P2 : Nat → Value → Prop} {St1 St2 : Nat → Heap → Prop} {f : Bool} {oT : Obj}
/-- 'next' of a zip whose tuple is still out -/
theorem zipH_next_item {Q : Value → Shared → Prop} (S : ZipSep2 z TI TO i1 i2 fp1 fp2) (D1 : Draws prog w A i1 fp1 n1 P1 St1) (D2 : Draws prog w A i2 fp2 n2 P2 St2)
    (hz : IsZipHeld s.heap z TI TO T f) (hT : s.heap.get? T = some oT) (hTI : IsTupOf2 s.heap TI (.ref i1) (.ref i2)) (st1 : St1 i s.heap) (st2 : St2 i s.heap) (hlt1 : i < n1) (hlt2 : i < n2)
    (hQ : ∀ x1 x2 h' tk, P1 i x1 → P2 i x2 → IsZipHeld h' z TI TO T true → St1 (i + 1) h' → St2 (i + 1) h' → IsTupOf2 h' s.heap.objs.size x1 x2 → h'.objs.size = s.heap.objs.size + 1 →
      (∀ c o, c ≠ z → c ≠ TO → c ≠ i1 → c ≠ i2 → s.heap.get? c = some o → h'.get? c = some o) → Q (.ref s.heap.objs.size) { s with heap := h', toks := tk }) :
    wpAny (model prog w) A (Builtin.«zip.__next__» ⟨[.ref z], []⟩) (fun fin s' => ∃ v, fin = .done (.ret v) ∧ Q v s') E s := by
  obtain ⟨hp, g, d, tk0, os⟩ := s
  show wpAny _ _ (field (.ref z) 2 >>= _) _ _ _
  refine wpAny_bind (wpAny_field hz rfl (x := .bool false) rfl ?_)
  show wpAny _ _ (field (.ref z) 3 >>= _) _ _ _
  refine wpAny_bind (wpAny_field hz rfl (x := .ref TI) rfl ?_)
  refine wpAny_bind (wpAny_seqItems hTI rfl ?_)
  show wpAny _ _ (Builtin.SmallTypes.ownedTupleIsFree (.ref z) >>= _) _ _ _
  refine wpAny_bind (wpAny_tupleHeld_zip hz hT fun g0 hz0 hs0 => ?_)
  replace hs0 : Heap.SameBut z hp g0 := hs0
  simp only [Bool.false_eq_true, if_false]
  refine wpAny_bind ?_
  rw [← Array.forIn_toList]
  simp only [List.forIn_cons, List.forIn_nil]
  refine wpAny_bind (wpAny_bind (wpAny_holding ?_))
  show wpAny _ _ (Builtin.SmallTypes.nextOf (.ref i1) >>= _) _ _ ⟨g0, g, d, tk0, os⟩
  refine wpAny_bind (D1.item i _ _ _ hlt1 (D1.over st1 hs0 S.zf1) fun x1 p1 tk1 hx1 sn1 hp1 => wpAny_pure ?_)
  replace hp1 : Heap.SameBut i1 g0 p1 := hp1
  refine wpAny_pure ?_
  refine wpAny_bind (wpAny_bind (wpAny_holding ?_))
  show wpAny _ _ (Builtin.SmallTypes.nextOf (.ref i2) >>= _) _ _ ⟨p1, g, d, tk1, os⟩
  refine wpAny_bind (D2.item i _ _ _ hlt2 (D2.over (D2.over st2 hs0 S.zf2) hp1 S.sep1_2) fun x2 p2 tk2 hx2 sn2 hp2 => wpAny_pure ?_)
  replace hp2 : Heap.SameBut i2 p1 p2 := hp2
  refine wpAny_pure (wpAny_pure ?_)
  show wpAny _ _ (newTuple [x1, x2] >>= _) _ _ _
  refine wpAny_bind (wpAny_newTuple ?_)
  have hsz : p2.objs.size = hp.objs.size := by rw [hp2.1, hp1.1, hs0.1]
  have hzz : IsZipHeld p2 z TI TO T true := hp2.extBut _ _ S.zi2 (hp1.extBut _ _ S.zi1 hz0)
  have hk : ∀ c o, c ≠ z → c ≠ i1 → c ≠ i2 → hp.get? c = some o → p2.get? c = some o := fun c o cz c1 c2 e => hp2.extBut _ _ c2 (hp1.extBut _ _ c1 (hs0.extBut _ _ cz e))
  have hj1 : St1 (i + 1) p2 := D1.over sn1 hp2 S.sep2_1
  refine wpAny_pure ⟨_, rfl, ?_⟩
  show Q (.ref p2.objs.size) _
  have hpT : IsTupOf2 (p2.push { cls := .type "tuple", data := .seq #[x1, x2] }) p2.objs.size x1 x2 := Heap.get?_push_size _ rfl
  have hz4 : (p2.push { cls := .type "tuple", data := .seq #[x1, x2] }).objs.size = p2.objs.size + 1 := Heap.size_push ..
  rw [hsz] at hpT hz4 ⊢
  exact hQ x1 x2 _ tk2 hx1 hx2 (Heap.get?_push_of_some _ hzz) (D1.frame _ _ _ hj1 fun b hb o e => Heap.get?_push_of_some _ e) (D2.frame _ _ _ sn2 fun b hb o e => Heap.get?_push_of_some _ e) hpT hz4
    fun c o cz _ c1 c2 e => Heap.get?_push_of_some _ (hk c o cz c1 c2 e)
theorem zipH_next_end {Q : Fin → Shared → Prop} (S : ZipSep2 z TI TO i1 i2 fp1 fp2) (D1 : Draws prog w A i1 fp1 n1 P1 St1) (D2 : Draws prog w A i2 fp2 n2 P2 St2)
    (hz : IsZipHeld s.heap z TI TO T f) (hT : s.heap.get? T = some oT) (hTI : IsTupOf2 s.heap TI (.ref i1) (.ref i2)) (st1 : St1 i s.heap) (st2 : St2 i s.heap) (hle1 : i ≤ n1) (hle2 : i ≤ n2) (hend : i = n1 ∨ i = n2)
    (hE : ∀ h' tk e, (∀ c o, c ≠ z → c ≠ TO → c ≠ i1 → c ≠ i2 → s.heap.get? c = some o → h'.get? c = some o) → (∃ o, h'.get? e = some o ∧ o.cls = .type "StopIteration") → E (.ref e) { s with heap := h', toks := tk }) :
    wpAny (model prog w) A (Builtin.«zip.__next__» ⟨[.ref z], []⟩) Q E s := by
  obtain ⟨hp, g, d, tk0, os⟩ := s
  show wpAny _ _ (field (.ref z) 2 >>= _) _ _ _
  refine wpAny_bind (wpAny_field hz rfl (x := .bool false) rfl ?_)
  show wpAny _ _ (field (.ref z) 3 >>= _) _ _ _
  refine wpAny_bind (wpAny_field hz rfl (x := .ref TI) rfl ?_)
  refine wpAny_bind (wpAny_seqItems hTI rfl ?_)
  show wpAny _ _ (Builtin.SmallTypes.ownedTupleIsFree (.ref z) >>= _) _ _ _
  refine wpAny_bind (wpAny_tupleHeld_zip hz hT fun g0 hz0 hs0 => ?_)
  replace hs0 : Heap.SameBut z hp g0 := hs0
  simp only [Bool.false_eq_true, if_false]
  refine wpAny_bind ?_
  rw [← Array.forIn_toList]
  simp only [List.forIn_cons, List.forIn_nil]
  refine wpAny_bind (wpAny_bind (wpAny_holding ?_))
  show wpAny _ _ (Builtin.SmallTypes.nextOf (.ref i1) >>= _) _ _ ⟨g0, g, d, tk0, os⟩
  by_cases hlt1 : i < n1
  · refine wpAny_bind (D1.item i _ _ _ hlt1 (D1.over st1 hs0 S.zf1) fun x1 p1 tk1 hx1 sn1 hp1 => wpAny_pure ?_)
    replace hp1 : Heap.SameBut i1 g0 p1 := hp1
    have hi2 : i = n2 := by omega
    refine wpAny_pure ?_
    refine wpAny_bind (wpAny_bind (wpAny_holding ?_))
    show wpAny _ _ (Builtin.SmallTypes.nextOf (.ref i2) >>= _) _ _ ⟨p1, g, d, tk1, os⟩
    refine wpAny_bind (D2.done ⟨p1, g, d, tk1, os⟩ _ _ (by rw [← hi2]; exact (D2.over (D2.over st2 hs0 S.zf2) hp1 S.sep1_2)) fun q e hq he => ?_)
    exact hE q tk1 e (fun c o cz _ c1 c2 x => hq _ _ c2 (hp1.extBut _ _ c1 (hs0.extBut _ _ cz x))) he
  · have hi1 : i = n1 := by omega
    refine wpAny_bind (D1.done ⟨g0, g, d, tk0, os⟩ _ _ (by rw [← hi1]; exact (D1.over st1 hs0 S.zf1)) fun q e hq he => ?_)
    exact hE q tk0 e (fun c o cz _ c1 c2 x => hq _ _ c1 (hs0.extBut _ _ cz x)) he
theorem wpAny_pyNext_zipH_item {Q : Option Value → Shared → Prop} (S : ZipSep2 z TI TO i1 i2 fp1 fp2) (D1 : Draws prog w A.in1 i1 fp1 n1 P1 St1) (D2 : Draws prog w A.in1 i2 fp2 n2 P2 St2)
    (hz : IsZipHeld s.heap z TI TO T f) (hT : s.heap.get? T = some oT) (hTI : IsTupOf2 s.heap TI (.ref i1) (.ref i2)) (st1 : St1 i s.heap) (st2 : St2 i s.heap) (hlt1 : i < n1) (hlt2 : i < n2)
    (hQ : ∀ x1 x2 h' tk, P1 i x1 → P2 i x2 → IsZipHeld h' z TI TO T true → St1 (i + 1) h' → St2 (i + 1) h' → IsTupOf2 h' s.heap.objs.size x1 x2 → h'.objs.size = s.heap.objs.size + 1 →
      (∀ c o, c ≠ z → c ≠ TO → c ≠ i1 → c ≠ i2 → s.heap.get? c = some o → h'.get? c = some o) → Q (some (.ref s.heap.objs.size)) { s with heap := h', toks := tk }) :
    wpAny (model prog w) A (pyNext (.ref z)) Q E s := by
  have hTy : s.TypeIs (.ref z) "zip" := ⟨_, hz, rfl⟩
  unfold pyNext
  exact wpAny_bind (wpAny_attempt (wpAny_callSpecial?_slot (name := Str.ofString "__next__") hTy F.slot_zip_next
    (wpAny_call_entry F.slot_zip_next hTy F.entry_zip_next
      (zipH_next_item S D1 D2 hz hT hTI st1 st2 hlt1 hlt2 fun x1 x2 h' tk y1 y2 b1 d1 d2 b5 b6 b7 => wpAny_pure (hQ x1 x2 h' tk y1 y2 b1 d1 d2 b5 b6 b7)) (F.args_zip_next_1 _))))
theorem wpAny_pyNext_zipH_end {Q : Option Value → Shared → Prop} (S : ZipSep2 z TI TO i1 i2 fp1 fp2) (D1 : Draws prog w A.in1 i1 fp1 n1 P1 St1) (D2 : Draws prog w A.in1 i2 fp2 n2 P2 St2)
    (hz : IsZipHeld s.heap z TI TO T f) (hT : s.heap.get? T = some oT) (hTI : IsTupOf2 s.heap TI (.ref i1) (.ref i2)) (st1 : St1 i s.heap) (st2 : St2 i s.heap) (hle1 : i ≤ n1) (hle2 : i ≤ n2) (hend : i = n1 ∨ i = n2)
    (hQ : ∀ h' tk, (∀ c o, c ≠ z → c ≠ TO → c ≠ i1 → c ≠ i2 → s.heap.get? c = some o → h'.get? c = some o) → Q none { s with heap := h', toks := tk }) : wpAny (model prog w) A (pyNext (.ref z)) Q E s := by
  have hTy : s.TypeIs (.ref z) "zip" := ⟨_, hz, rfl⟩
  unfold pyNext
  refine wpAny_bind (wpAny_attempt (wpAny_callSpecial?_slot (name := Str.ofString "__next__") hTy F.slot_zip_next
    (wpAny_call_entry F.slot_zip_next hTy F.entry_zip_next (zipH_next_end S D1 D2 hz hT hTI st1 st2 hle1 hle2 hend fun h' tk e hk he => ?_) (F.args_zip_next_1 _))))
  obtain ⟨o, ho, hc⟩ := he
  refine wpAny_bind (wpAny_isInstance (T := "StopIteration") (b := true) ⟨o, ho, hc⟩ isSubtype_stop ?_)
  exact wpAny_pure (hQ _ _ hk)
end
theorem zip_no_len : typeLookup (.type "zip") "__len__" = pure none := am_miss_of_fast (by decide +kernel)
theorem zip_no_hint : typeLookup (.type "zip") "__length_hint__" = pure none := am_miss_of_fast (by decide +kernel)
/-- the pairs that came, at the addresses ts -/
def ZPairs (P1 P2 : Nat → Value → Prop) (base : Nat) (S : Addr) (h : Heap) (ts : List Addr) : Prop :=
  ts.Nodup ∧ ∀ (j : Nat) (T : Addr), ts[j]? = some T → base ≤ T ∧ T ≠ S ∧ ∃ u v, P1 j u ∧ P2 j v ∧ IsTupOf2 h T u v
def zChg (z TO i1 i2 S : Addr) : List Addr := [z, TO, i1, i2, S]
section
variable {prog : Program} {w : World} {A : Around} {E : Value → Shared → Prop} {R : Result → Shared → Prop} {z TI TO i1 i2 : Addr} {fp1 fp2 : List Addr} {n1 n2 : Nat} {P1 P2 : Nat → Value → Prop} {St1 St2 : Nat → Heap → Prop}
/-- the zip at its turn i -/
def ZSt (z TI TO i1 i2 : Addr) (St1 St2 : Nat → Heap → Prop) (i : Nat) (h : Heap) (ts : List Addr) : Prop :=
  IsTupOf2 h TI (.ref i1) (.ref i2) ∧ St1 i h ∧ St2 i h ∧ ((IsZip h z TI TO .none ∧ ∃ a b, IsTupOf2 h TO a b) ∨ ∃ T f, IsZipHeld h z TI TO T f ∧ T ∈ ts)
theorem zipL_loop (D : ZipSep2 z TI TO i1 i2 fp1 fp2) (D1 : Draws prog w A.in1.in1 i1 fp1 n1 P1 St1) (D2 : Draws prog w A.in1.in1 i2 fp2 n2 P2 St2) (S : Addr) (res : Value) (base : Nat)
    (hS1 : S ∉ fp1) (hS2 : S ∉ fp2) (hSz : S ≠ z) (hSI : S ≠ TI) (hSO : S ≠ TO) (hlow : z < base ∧ TI < base ∧ TO < base ∧ i1 < base ∧ i2 < base) (hn : min n1 n2 ≤ sizeLine) :
    ∀ (k i : Nat) (s : Shared) (ts : List Addr) (c : Nat), min n1 n2 - i = k → i ≤ min n1 n2 → ts.length = i → base ≤ s.heap.objs.size → S < s.heap.objs.size → ZSt z TI TO i1 i2 St1 St2 i s.heap ts → ZPairs P1 P2 base S s.heap ts →
    s.heap.get? S = some { cls := .type "list", dict := none, data := .seq (ts.map Value.ref).toArray c, slots := #[] } →
    (∀ h' tk ts' c', ts'.length = min n1 n2 → ZPairs P1 P2 base S h' ts' → h'.get? S = some { cls := .type "list", dict := none, data := .seq (ts'.map Value.ref).toArray c', slots := #[] } →
      (∀ b o, b ∉ zChg z TO i1 i2 S → s.heap.get? b = some o → h'.get? b = some o) → R (.ok (.ret res)) { s with heap := h', toks := tk }) →
    codeAny (model prog w) A (.builtin "list.extend.loop" ⟨[.ref S, .ref z, res], []⟩) R s := by
  have far : ∀ {T x : Addr}, base ≤ T → x < base → T ≠ x := fun h1 h2 => Nat.ne_of_gt (Nat.lt_of_lt_of_le h2 h1)
  intro k
  induction k with
  | zero =>
    intro i s ts c hk hi hl hb hSs ⟨hTI, st1, st2, hz⟩ hp hS hR
    have hin : i = n1 ∨ i = n2 := by omega
    refine codeAny_builtin F.entry_extend_loop ?_
    rw [Around.under_plainId F.plain_extend_loop _]
    show wpAny _ A.in1 (pyNext (.ref z) >>= _) _ _ s
    have out : ∀ h' tk, (∀ c o, c ≠ z → c ≠ TO → c ≠ i1 → c ≠ i2 → s.heap.get? c = some o → h'.get? c = some o) → R (.ok (.ret res)) { s with heap := h', toks := tk } := fun h' tk hk => by
      have k2 : ∀ b o, b ≠ z → b ≠ TO → b ≠ i1 → b ≠ i2 → s.heap.get? b = some o → h'.get? b = some o := hk
      refine hR h' tk ts c (by omega) ⟨hp.1, fun j T e => ?_⟩ (k2 S _ hSz hSO (fun e => hS1 (e ▸ D.mem1)) (fun e => hS2 (e ▸ D.mem2)) hS) fun b o nb e => ?_
      · obtain ⟨b1, b2, u, v, p1, p2, t⟩ := hp.2 j T e
        exact ⟨b1, b2, u, v, p1, p2, k2 T _ (far b1 hlow.1) (far b1 hlow.2.2.1) (far b1 hlow.2.2.2.1) (far b1 hlow.2.2.2.2) t⟩
      · simp only [zChg, List.mem_cons, List.not_mem_nil, or_false, not_or] at nb
        exact k2 b o nb.1 nb.2.1 nb.2.2.1 nb.2.2.2.1 e
    rcases hz with ⟨hz, a, b, hTO⟩ | ⟨T, f, hz, hT⟩
    · refine wpAny_bind (wpAny_pyNext_zipD2_end D D1 D2 hz hTI hTO st1 st2 (by omega) (by omega) hin fun h' tk hk => ?_)
      exact wpAny_pure (out h' tk hk)
    · obtain ⟨j, hj⟩ := List.mem_iff_getElem?.mp hT
      obtain ⟨_, _, u, v, _, _, t⟩ := hp.2 j T hj
      refine wpAny_bind (wpAny_pyNext_zipH_end D D1 D2 hz t hTI st1 st2 (by omega) (by omega) hin fun h' tk hk => ?_)
      exact wpAny_pure (out h' tk hk)
  | succ k ih =>
    intro i s ts c hk hi hl hb hSs ⟨hTI, st1, st2, hz⟩ hp hS hR
    have hlt1 : i < n1 := by omega
    have hlt2 : i < n2 := by omega
    refine codeAny_builtin F.entry_extend_loop ?_
    rw [Around.under_plainId F.plain_extend_loop _]
    show wpAny _ A.in1 (pyNext (.ref z) >>= _) _ _ s
    have go : ∀ x1 x2 h' tk f, P1 i x1 → P2 i x2 → (∃ T, IsZipHeld h' z TI TO T f ∧ (T = s.heap.objs.size ∨ T ∈ ts)) → St1 (i + 1) h' → St2 (i + 1) h' → IsTupOf2 h' s.heap.objs.size x1 x2 → h'.objs.size = s.heap.objs.size + 1 →
        (∀ c o, c ≠ z → c ≠ TO → c ≠ i1 → c ≠ i2 → s.heap.get? c = some o → h'.get? c = some o) →
        wpAny (model prog w) A.in1 (updateSeq S (·.push (Value.ref s.heap.objs.size)) >>= fun _ => again (.builtin "list.extend.loop" ⟨[.ref S, .ref z, res], []⟩))
          (fun fin s' => match fin with | .done f => R (.ok f) s' | .again c' => c'.quiet = true ∧ codeAny (model prog w) A c' R s') (fun e s' => R (.error e) s') { s with heap := h', toks := tk } := by
      intro x1 x2 h' tk f q1 q2 ⟨T, hzT, hTm⟩ sn1 sn2 hT hsz k2
      have hS' : h'.get? S = _ := k2 S _ hSz hSO (fun e => hS1 (e ▸ D.mem1)) (fun e => hS2 (e ▸ D.mem2)) hS
      have lz := hlow.1
      have hSne : S ≠ s.heap.objs.size := Nat.ne_of_lt hSs
      have oth : ∀ b o, b ≠ S → h'.get? b = some o → (h'.update S (Obj.mapSeq (·.push (Value.ref s.heap.objs.size)))).get? b = some o := fun b o nb e => (Heap.get?_update_other _ _ (Ne.symm nb)).trans e
      have hsize : ((ts.map Value.ref).toArray).size = i := by simp [hl]
      refine wpAny_bind ?_
      refine wpAny_updateSeq (s := { s with heap := h', toks := tk }) hS' rfl (wpAny_pure ⟨plainId_quiet F.plain_extend_loop _, ?_⟩) (by rw [hsize]; omega) (by show ((ts.map Value.ref).toArray.push _).size ≤ sizeLine + 1; rw [Array.size_push, hsize]; omega)
      have hup : (h'.update S (Obj.mapSeq (·.push (Value.ref s.heap.objs.size)))).get? S = _ := Heap.get?_update_self _ hS' rfl
      have hpush : ((ts.map Value.ref).toArray).push (Value.ref s.heap.objs.size) = ((ts ++ [s.heap.objs.size]).map Value.ref).toArray := by simp
      obtain ⟨c3, hup2⟩ : ∃ c3, (h'.update S (Obj.mapSeq (·.push (Value.ref s.heap.objs.size)))).get? S = some { cls := .type "list", dict := none, data := .seq ((ts ++ [s.heap.objs.size]).map Value.ref).toArray c3, slots := #[] } := ⟨_, by rw [← hpush]; exact hup⟩
      have usz : (h'.update S (Obj.mapSeq (·.push (Value.ref s.heap.objs.size)))).objs.size = s.heap.objs.size + 1 := by rw [← hsz]; exact (Heap.SameBut.update (h := h') S _).1
      refine ih (i + 1) _ (ts ++ [s.heap.objs.size]) _ (by omega) (by omega) (by rw [List.length_append, hl]; rfl) (by show base ≤ (h'.update S _).objs.size; rw [usz]; omega) (by show S < (h'.update S _).objs.size; rw [usz]; exact Nat.lt_succ_of_lt hSs) ⟨?_, ?_, ?_, .inr ⟨T, f, ?_, ?_⟩⟩ ⟨?_, fun j T' e => ?_⟩ hup2 fun h2 tk2 ts2 c2 a1 a2 a3 a4 => ?_
      · exact oth _ _ hSI.symm (k2 TI _ D.TIz D.TITO D.TIi1 D.TIi2 hTI)
      · exact D1.frame _ _ _ sn1 fun b hb o e => oth b o (fun z => hS1 (z ▸ hb)) e
      · exact D2.frame _ _ _ sn2 fun b hb o e => oth b o (fun z => hS2 (z ▸ hb)) e
      · exact oth _ _ hSz.symm hzT
      · rcases hTm with h | h
        · rw [h]; simp
        · exact List.mem_append_left _ h
      · refine List.nodup_append.mpr ⟨hp.1, by simp, fun a ha b hb e => ?_⟩
        rw [List.mem_singleton] at hb
        subst hb
        obtain ⟨j, hj⟩ := List.mem_iff_getElem?.mp ha
        obtain ⟨_, _, u, v, _, _, t⟩ := hp.2 j a hj
        exact Nat.lt_irrefl _ (e ▸ Heap.lt_size t)
      · by_cases hj : j < ts.length
        · rw [List.getElem?_append_left hj] at e
          obtain ⟨b1, b2, u, v, p1, p2, t⟩ := hp.2 j T' e
          exact ⟨b1, b2, u, v, p1, p2, oth _ _ b2 (k2 T' _ (far b1 hlow.1) (far b1 hlow.2.2.1) (far b1 hlow.2.2.2.1) (far b1 hlow.2.2.2.2) t)⟩
        · rw [List.getElem?_append_right (by omega)] at e
          have hj0 : j - ts.length = 0 := by
            cases h0 : j - ts.length with
            | zero => rfl
            | succ m => rw [h0] at e; simp at e
          rw [hj0] at e
          have e2 : s.heap.objs.size = T' := by simpa using e
          have ej : j = i := by omega
          subst e2 ej
          exact ⟨hb, hSne.symm, x1, x2, q1, q2, oth _ _ hSne.symm hT⟩
      · refine hR h2 tk2 ts2 c2 a1 a2 a3 fun b o nb e => ?_
        have nb' := nb
        simp only [zChg, List.mem_cons, List.not_mem_nil, or_false, not_or] at nb'
        exact a4 b o nb (oth b o nb'.2.2.2.2 (k2 b o nb'.1 nb'.2.1 nb'.2.2.1 nb'.2.2.2.1 e))
    rcases hz with ⟨hz, a, b, hTO⟩ | ⟨T, f, hz, hT⟩
    · refine wpAny_bind (wpAny_pyNext_zipD2_item D D1 D2 hz hTI hTO st1 st2 hlt1 hlt2 fun x1 x2 h' tk q1 q2 hz' _ sn1 sn2 hT hsz k2 => ?_)
      exact go x1 x2 h' tk false q1 q2 ⟨_, hz', .inl rfl⟩ sn1 sn2 hT hsz k2
    · obtain ⟨j, hj⟩ := List.mem_iff_getElem?.mp hT
      obtain ⟨_, _, u, v, _, _, t⟩ := hp.2 j T hj
      refine wpAny_bind (wpAny_pyNext_zipH_item D D1 D2 hz t hTI st1 st2 hlt1 hlt2 fun x1 x2 h' tk q1 q2 hz' sn1 sn2 hT2 hsz k2 => ?_)
      exact go x1 x2 h' tk true q1 q2 ⟨_, hz', .inr hT⟩ sn1 sn2 hT2 hsz k2
theorem list_zip_init {s : Shared} {base : Nat} (D : ZipSep2 z TI TO i1 i2 fp1 fp2) (D1 : Draws prog w A.in1.in1 i1 fp1 n1 P1 St1) (D2 : Draws prog w A.in1.in1 i2 fp2 n2 P2 St2) (S : Addr)
    (hS1 : S ∉ fp1) (hS2 : S ∉ fp2) (hSz : S ≠ z) (hSI : S ≠ TI) (hSO : S ≠ TO) (hlow : z < base ∧ TI < base ∧ TO < base ∧ i1 < base ∧ i2 < base) (hn : min n1 n2 ≤ sizeLine) (hb : base ≤ s.heap.objs.size) (hSs : S < s.heap.objs.size)
    (hz : IsZip s.heap z TI TO .none) (hTI : IsTupOf2 s.heap TI (.ref i1) (.ref i2)) (hTO : ∃ a b, IsTupOf2 s.heap TO a b) (st1 : St1 0 s.heap) (st2 : St2 0 s.heap)
    (hS : s.heap.get? S = some { cls := .type "list", data := .seq #[] })
    (hR : ∀ h' tk ts' c', ts'.length = min n1 n2 → ZPairs P1 P2 base S h' ts' → h'.get? S = some { cls := .type "list", dict := none, data := .seq (ts'.map Value.ref).toArray c', slots := #[] } →
      (∀ b o, b ∉ zChg z TO i1 i2 S → s.heap.get? b = some o → h'.get? b = some o) → R (.ok (.ret .none)) { s with heap := h', toks := tk }) :
    wpAny (model prog w) A.in1 (Builtin.«list.__init__» ⟨[.ref S, .ref z], []⟩)
      (fun fin s' => match fin with | .done f => R (.ok f) s' | .again c' => c'.quiet = true ∧ codeAny (model prog w) A c' R s') (fun e s' => R (.error e) s') s := by
  show wpAny _ A.in1 (do let old ← Builtin.List.listItems (.ref S); Builtin.List.listUpdate (.ref S) (fun _ => #[]); letGo old.toList.reverse; Builtin.List.listExtendWith (.ref S) (.ref z) .none) _ _ s
  refine wpAny_bind ?_
  unfold Builtin.List.listItems
  refine wpAny_bind (wpAny_seqItems hS rfl (wpAny_pure ?_))
  show wpAny _ A.in1 (updateSeq S (fun _ => #[]) >>= fun _ => letGo (#[] : Array Value).toList.reverse >>= fun _ => Builtin.List.listExtendWith (.ref S) (.ref z) .none) _ _ s
  refine wpAny_bind (wpAny_updateSeq hS rfl ?_)
  have hS₁ := Heap.get?_update_self (Obj.mapSeq (fun _ => (#[] : Array Value))) hS rfl
  have oth1 : ∀ b o, b ≠ S → s.heap.get? b = some o → (s.heap.update S (Obj.mapSeq (fun _ => (#[] : Array Value)))).get? b = some o :=
    fun b o hb e => (Heap.get?_update_other _ _ (Ne.symm hb)).trans e
  have sz1 : (s.heap.update S (Obj.mapSeq (fun _ => (#[] : Array Value)))).objs.size = s.heap.objs.size := (Heap.SameBut.update (h := s.heap) S _).1
  generalize hh1 : s.heap.update S (Obj.mapSeq (fun _ => (#[] : Array Value))) = h1 at hS₁ oth1 sz1 ⊢
  refine wpAny_bind (wpAny_letGo ?_)
  unfold Builtin.List.listExtendWith
  have hzT : Shared.TypeIs { s with heap := h1 } (.ref z) "zip" := ⟨_, oth1 _ _ hSz.symm hz, rfl⟩
  refine wpAny_bind (wpAny_typeOf hzT ?_)
  have e1 : Builtin.List.listSameRef (.ref S) (.ref z) = false := by simp [Builtin.List.listSameRef, hSz]
  have e2 : (Value.type "zip" == Value.type "list") = false := by decide
  have e3 : (Value.type "zip" == Value.type "tuple") = false := by decide
  simp only [e1, e2, e3, Bool.or_false, Bool.false_eq_true, if_false]
  refine wpAny_bind (wpAny_pyIter_zip (s := { s with heap := h1 }) (oth1 _ _ hSz.symm hz) ?_)
  refine wpAny_bind (wpAny_holding ?_)
  unfold Builtin.List.listLengthHint
  refine wpAny_bind (wpAny_specialOf hzT zip_no_len ?_)
  show wpAny _ A.in1 (specialOf (Value.ref z) (Str.ofString "__length_hint__") >>= _) _ _ _
  refine wpAny_bind (wpAny_specialOf hzT zip_no_hint ?_)
  refine wpAny_pure ?_
  show wpAny _ A.in1 (rule "list.extend.makes-room" >>= fun _ => Builtin.List.listTouch (.ref S) >>= fun _ =>
    again (.builtin "list.extend.loop" ⟨[.ref S, .ref z, .none], []⟩)) _ _ _
  refine wpAny_bind (wpAny_rule ?_)
  refine wpAny_bind ?_
  show wpAny _ A.in1 (updateSeq S (·.push .none) >>= fun _ => updateSeq S (·.pop)) _ _ _
  refine wpAny_bind (wpAny_updateSeq (s := { s with heap := h1 }) hS₁ rfl ?_)
  have hS₂ := Heap.get?_update_self (Obj.mapSeq (·.push Value.none)) hS₁ rfl
  have oth2 : ∀ b o, b ≠ S → h1.get? b = some o → (h1.update S (Obj.mapSeq (·.push Value.none))).get? b = some o := fun b o hb e => (Heap.get?_update_other _ _ (Ne.symm hb)).trans e
  have sz2 : (h1.update S (Obj.mapSeq (·.push Value.none))).objs.size = s.heap.objs.size := ((Heap.SameBut.update (h := h1) S _).1).trans sz1
  generalize hh2 : h1.update S (Obj.mapSeq (·.push Value.none)) = h2 at hS₂ oth2 sz2 ⊢
  refine wpAny_updateSeq (s := { s with heap := h2 }) (hz := by seq_fits) hS₂ rfl ?_
  have hS₃ := Heap.get?_update_self (Obj.mapSeq (·.pop)) hS₂ rfl
  have oth3 : ∀ b o, b ≠ S → h2.get? b = some o → (h2.update S (Obj.mapSeq (·.pop))).get? b = some o := fun b o hb e => (Heap.get?_update_other _ _ (Ne.symm hb)).trans e
  have sz3 : (h2.update S (Obj.mapSeq (·.pop))).objs.size = s.heap.objs.size := ((Heap.SameBut.update (h := h2) S _).1).trans sz2
  have oth : ∀ b o, b ≠ S → s.heap.get? b = some o → (h2.update S (Obj.mapSeq (·.pop))).get? b = some o := fun b o hb e => oth3 b o hb (oth2 b o hb (oth1 b o hb e))
  obtain ⟨c3, hS4⟩ : ∃ c3, (h2.update S (Obj.mapSeq (·.pop))).get? S = some { cls := .type "list", dict := none, data := .seq (([] : List Addr).map Value.ref).toArray c3, slots := #[] } := ⟨_, hS₃⟩
  generalize h2.update S (Obj.mapSeq (·.pop)) = h3 at hS4 oth sz3 ⊢
  obtain ⟨a, b, hTO⟩ := hTO
  refine wpAny_pure ⟨plainId_quiet F.plain_extend_loop _, zipL_loop (R := R) D D1 D2 S .none base hS1 hS2 hSz hSI hSO hlow hn (min n1 n2) 0 { s with heap := h3 } [] c3 (by omega) (Nat.zero_le _) rfl (by show base ≤ h3.objs.size; rw [sz3]; exact hb) (by show S < h3.objs.size; rw [sz3]; exact hSs)
    ⟨oth _ _ hSI.symm hTI, D1.frame _ _ _ st1 fun b hb o e => oth b o (fun z => hS1 (z ▸ hb)) e, D2.frame _ _ _ st2 fun b hb o e => oth b o (fun z => hS2 (z ▸ hb)) e, .inl ⟨oth _ _ hSz.symm hz, a, b, oth _ _ hSO.symm hTO⟩⟩
    ⟨.nil, fun j T e => by simp at e⟩ hS4 fun h' tk ts' c' q1 q2 q3 q4 => ?_⟩
  refine hR h' tk ts' c' q1 q2 q3 fun b o nb e => ?_
  have nb' := nb
  simp only [zChg, List.mem_cons, List.not_mem_nil, or_false, not_or] at nb'
  exact q4 b o nb (oth b o nb'.2.2.2.2 e)
theorem call_list_zip {s : Shared} {Q : Value → Shared → Prop} (D : ZipSep2 z TI TO i1 i2 fp1 fp2) (D1 : Draws prog w A.in1.in1.in1 i1 fp1 n1 P1 St1) (D2 : Draws prog w A.in1.in1.in1 i2 fp2 n2 P2 St2)
    (hl1 : ∀ b ∈ fp1, b < s.heap.objs.size) (hl2 : ∀ b ∈ fp2, b < s.heap.objs.size) (hn : min n1 n2 ≤ sizeLine)
    (hz : IsZip s.heap z TI TO .none) (hTI : IsTupOf2 s.heap TI (.ref i1) (.ref i2)) (hTO : ∃ a b, IsTupOf2 s.heap TO a b) (st1 : St1 0 s.heap) (st2 : St2 0 s.heap)
    (hQ : ∀ h' tk ts' c', ts'.length = min n1 n2 → ZPairs P1 P2 s.heap.objs.size s.heap.objs.size h' ts' → h'.get? s.heap.objs.size = some { cls := .type "list", dict := none, data := .seq (ts'.map Value.ref).toArray c', slots := #[] } →
      (∀ b o, b ∉ [z, TO, i1, i2] → s.heap.get? b = some o → h'.get? b = some o) → Q (.ref s.heap.objs.size) { s with heap := h', toks := tk }) :
    wpAny (model prog w) A (call (.type "list") [.ref z]) Q E s := by
  obtain ⟨a, b, hTO'⟩ := id hTO
  have lz := Heap.lt_size hz
  have lI := Heap.lt_size hTI
  have lO := Heap.lt_size hTO'
  refine callType_codes (Q₁ := fun obj s₁ => obj = .ref s.heap.objs.size ∧ s₁ = { s with heap := s.heap.push { cls := .type "list", data := .seq #[] } }) F.called_list (F.typeCall_list_1 _) F.entry_list_init
    (code_list_new _ ⟨rfl, rfl⟩) fun obj s₁ h₁ => ?_
  obtain ⟨rfl, rfl⟩ := h₁
  have hS : (s.heap.push { cls := .type "list", data := .seq #[] }).get? s.heap.objs.size = some { cls := .type "list", data := .seq #[] } := Heap.get?_push_size _ rfl
  have up : ∀ {b o}, s.heap.get? b = some o → (s.heap.push { cls := .type "list", data := .seq #[] }).get? b = some o := fun e => Heap.get?_push_of_some _ e
  have sz : (s.heap.push { cls := .type "list", data := .seq #[] }).objs.size = s.heap.objs.size + 1 := Heap.size_push ..
  refine ⟨⟨_, hS, rfl⟩, F.args_list_init_2 _ _, list_zip_init (base := s.heap.objs.size) D D1 D2 s.heap.objs.size (fun m => Nat.lt_irrefl _ (hl1 _ m)) (fun m => Nat.lt_irrefl _ (hl2 _ m)) (Nat.ne_of_gt lz) (Nat.ne_of_gt lI) (Nat.ne_of_gt lO)
    ⟨lz, lI, lO, hl1 _ D.mem1, hl2 _ D.mem2⟩ hn (by show s.heap.objs.size ≤ (s.heap.push _).objs.size; rw [sz]; exact Nat.le_succ _) (by show s.heap.objs.size < (s.heap.push _).objs.size; rw [sz]; exact Nat.lt_succ_self _) (up hz) (up hTI) ⟨a, b, up hTO'⟩
    (D1.frame _ _ _ st1 fun b hb o e => up e) (D2.frame _ _ _ st2 fun b hb o e => up e) hS fun h' tk ts' c' q1 q2 q3 q4 => ⟨rfl, ?_⟩⟩
  refine hQ h' tk ts' c' q1 q2 q3 fun b o nb e => q4 b o (fun m => ?_) (up e)
  simp only [zChg, List.mem_cons, List.not_mem_nil, or_false] at m nb
  rcases m with m | m | m | m | m
  · exact nb (.inl m)
  · exact nb (.inr (.inl m))
  · exact nb (.inr (.inr (.inl m)))
  · exact nb (.inr (.inr (.inr m)))
  · exact Nat.lt_irrefl _ (m ▸ Heap.lt_size e)
end
end PySem
namespace G
open PySem PySem.Spec PyProof.Rows L2
/-! list(zip(a, b)) -/
theorem choose_at {α β : Type} : ∀ (ts : List α) (R : Nat → α → β → Prop), (∀ j T, ts[j]? = some T → ∃ q, R j T q) → ∃ qs : List β, qs.length = ts.length ∧ ∀ j q, qs[j]? = some q → ∃ T, ts[j]? = some T ∧ R j T q
  | [], _, _ => ⟨[], rfl, fun j q e => by simp at e⟩
  | t :: ts, R, h => by
    obtain ⟨q, hq⟩ := h 0 t rfl
    obtain ⟨qs, h1, h2⟩ := choose_at ts (fun j => R (j + 1)) fun j T e => h (j + 1) T (by rw [List.getElem?_cons_succ]; exact e)
    refine ⟨q :: qs, by rw [List.length_cons, List.length_cons, h1], fun j x e => ?_⟩
    cases j with
    | zero => cases e; exact ⟨t, rfl, hq⟩
    | succ j =>
      rw [List.getElem?_cons_succ] at e
      obtain ⟨T, e1, e2⟩ := h2 j x e
      exact ⟨T, by rw [List.getElem?_cons_succ]; exact e1, e2⟩
theorem Un.more {fs ex : List Addr} {H H1 : Hp} {h h1 : Heap} {a : Addr} {o : HO} (u : Un fs ex H H1 h h1) (hp : h.objs.size ≤ a) (hn : H1 a = none) : Un fs ex H (upd H1 a o) h h1 where
  keep := u.keep
  slot := u.slot
  free := fun b ob q n x => by rw [upd_ne (Nat.ne_of_lt (Nat.lt_of_lt_of_le (Heap.lt_size q) hp))]; exact u.free b ob q n x
  there := u.there
  tups := fun b xs q => by
    have := u.tups b xs q
    rw [upd_ne (ne_of_none this hn)]; exact this
  frzs := fun b v xs q => by
    have := u.frzs b v xs q
    rw [upd_ne (ne_of_none this hn)]; exact this
  tbls := fun b ps q => by
    obtain ⟨m, e⟩ := u.tbls b ps q
    exact ⟨m, by rw [upd_ne (ne_of_none e hn)]; exact e⟩
theorem lay_tups {P : Program} {w : World} {fs ex : List Addr} {H0 : Hp} {h h' : Heap} : ∀ (ps : List (Addr × V × V)) (H : Hp), HOk P w H h' → Un fs ex H0 H h h' → (ps.map (·.1)).Nodup →
    (∀ p ∈ ps, H p.1 = none ∧ h.objs.size ≤ p.1 ∧ ∃ u v, IsTupOf2 h' p.1 u v ∧ RelV p.2.1 u ∧ RelV p.2.2 v) →
    ∃ H2, HOk P w H2 h' ∧ Un fs ex H0 H2 h h' ∧ (∀ b o, H b = some o → H2 b = some o) ∧ (∀ p ∈ ps, H2 p.1 = some (.tup [p.2.1, p.2.2])) ∧ ∀ b, H b = none → b ∉ ps.map (·.1) → H2 b = none
  | [], H, ok, un, _, _ => ⟨H, ok, un, fun _ _ e => e, fun p m => absurd m List.not_mem_nil, fun _ e _ => e⟩
  | p :: ps, H, ok, un, nd, hp => by
    obtain ⟨hn, hs, u, v, ht, ru, rv⟩ := hp p List.mem_cons_self
    rw [List.map_cons, List.nodup_cons] at nd
    have new : ObjOk P w (upd H p.1 (.tup [p.2.1, p.2.2])) h' p.1 (.tup [p.2.1, p.2.2]) :=
      ⟨by show 2 ≤ sizeLine; decide, [u, v], .cons ru (.cons rv .nil), ⟨_, ht, rfl, _, rfl⟩⟩
    obtain ⟨H2, a1, a2, a3, a4, a5⟩ := lay_tups ps (upd H p.1 (.tup [p.2.1, p.2.2])) (ok.laidN (fun _ _ e => e) hn new) (Un.more un hs hn) nd.2 fun q m => by
      have hne : q.1 ≠ p.1 := fun e => nd.1 (by rw [← e]; exact List.mem_map.mpr ⟨q, m, rfl⟩)
      obtain ⟨b1, b2⟩ := hp q (List.mem_cons_of_mem _ m)
      exact ⟨by rw [upd_ne hne]; exact b1, b2⟩
    refine ⟨H2, a1, a2, fun b o e => a3 b o (by rw [upd_ne (ne_of_none e hn)]; exact e), fun q m => ?_, fun b e nb => ?_⟩
    · rcases List.mem_cons.mp m with rfl | m
      · exact a3 _ _ upd_same
      · exact a4 q m
    · rw [List.map_cons, List.mem_cons, not_or] at nb
      exact a5 b (by rw [upd_ne nb.1]; exact e) nb.2
theorem Side.drawsA {X : Cx} {pins : List (Addr × Obj)} {σ : L2.St} {H : Hp} {s : Shared} {A : Around} {it : Addr} {n : Nat} (hh : A.handled = none) (I : Inv X pins σ H s) : ∀ {S : Side}, S.st it 0 s.heap → S.has X.K H n → it ∉ S.own →
    ∃ (P : Nat → Value → Prop) (St : Nat → Heap → Prop), Draws X.prog X.w A it (it :: S.own) n P St ∧ St 0 s.heap ∧ ∀ j v, P j v → ∃ x, RelV x v ∧ S.val X.K j H x
  | .l a, st, ⟨xs, hq, hn⟩, ho => by
    obtain ⟨its, rv, p, hz⟩ := I.list hq
    have hne : a ≠ it := fun z => ho (by rw [z]; exact List.mem_cons_self)
    have hl : its.toArray.size = n := by have := rv.length; rw [← hn, this]; simp
    refine ⟨_, _, hl ▸ Draws.list hh it a hne its.toArray, ⟨st, p.isList⟩, fun j v q => ?_⟩
    obtain ⟨x, e1, r⟩ := vals_back rv (by simpa using q)
    exact ⟨x, r, fun ys hy => by rw [I.list_inj hy hq]; exact e1⟩
  | .t a, st, ⟨xs, hq, hn⟩, ho => by
    obtain ⟨its, rv, p, hz⟩ := I.tuple hq
    have hne : a ≠ it := fun z => ho (by rw [z]; exact List.mem_cons_self)
    have hl : its.toArray.size = n := by have := rv.length; rw [← hn, this]; simp
    refine ⟨_, _, hl ▸ Draws.tuple hh it a hne its.toArray, ⟨st, p⟩, fun j v q => ?_⟩
    obtain ⟨x, e1, r⟩ := vals_back rv (by simpa using q)
    exact ⟨x, r, fun ys hy => by rw [I.tuple_inj hy hq]; exact e1⟩
  | .s x, ⟨tk, st⟩, hn, ho => by
    have hn' : x.cps.size = n := hn
    refine ⟨_, _, hn' ▸ Draws.text hh it x tk, st, fun j v ⟨c, u, e, q⟩ => ⟨.str ⟨#[c]⟩, ⟨u, q⟩, c, e, rfl⟩⟩
def tListZip (K : PySem.W.Frag) (ta : TA) : TE := fun σ H Q => ta σ H fun vs H1 => ∃ (S1 S2 : Side) (n1 n2 : Nat), vs = [S1.v, S2.v] ∧ S1.has K H1 n1 ∧ S2.has K H1 n2 ∧ min n1 n2 ≤ 1000 ∧
  ∀ (H2 : Hp) (l : Addr) (ps : List (Addr × V × V)), (∀ b o, H1 b = some o → H2 b = some o) → H1 l = none → ps.length = min n1 n2 →
    (∀ j p, ps[j]? = some p → S1.val K j H1 p.2.1 ∧ S2.val K j H1 p.2.2 ∧ H2 p.1 = some (.tup [p.2.1, p.2.2])) → H2 l = some (.lst (ps.map fun p => V.ref p.1)) → Q (.ref l) H2
theorem vals_refs : ∀ (ps : List (Addr × V × V)), Vals (ps.map fun p => V.ref p.1) ((ps.map (·.1)).map Value.ref)
  | [] => .nil
  | p :: ps => .cons rfl (vals_refs ps)
section
variable {X : Cx} {e e2 : Expr} {ta : TA} {p p2 q pos : Pos}
theorem pe_listzip (hc : X.calm = true) (hg : Gl X "list") (hm : X.mg "list" = none) (hg2 : Gl X "zip") (hm2 : X.mg "zip" = none) (ha : PA X [e, e2] ta)
    (na : starEach [.Call (.Name "zip" p2) [e, e2] [] q] X.env = (false, eval (.Call (.Name "zip" p2) [e, e2] [] q) X.env) :: starEach [] X.env := by rfl)
    (hs : starEach [e, e2] X.env = (false, eval e X.env) :: starEach [e2] X.env := by rfl) (hpl : (backTo q (starEach [e2] X.env)).any (·.1) = false := by rfl) :
    PE X (.Call (.Name "list" p) [.Call (.Name "zip" p2) [e, e2] [] q] [] pos) (tListZip X.K ta) := by
  refine ⟨fun pins s σ H Q I h => Call_ (ld_blt I hg hm boot_t_list ?_)⟩
  refine PyProof.Rows.callWith_type1 (PyProof.Rows.args_cons ?_ na) na rfl
  refine Call_ (ld_blt I hg2 hm2 PyProof.Rows.boot_zip (PyProof.Rows.callWith_type1 (thn (ha.run q pins s σ H _ I h) fun us s1 ⟨vs, H1, I1, r1, S1, S2, n1, n2, ex, hs1, hs2, hsm, qq⟩ => ?_) hs hpl))
  subst ex
  cases r1 with
  | cons r rr => cases rr with
    | cons r' rr =>
      cases rr
      obtain ⟨o1, Hd1, B1, g1, st1, lt1⟩ := Side.begins I1 hs1 r
      obtain ⟨o2, Hd2, B2, g2, st2, lt2⟩ := Side.begins I1 hs2 r'
      refine zip_begins2 B1 B2 g1 g2 fun h' hz hTI hTO h1 h2 hsz hk => ?_
      refine PyProof.Rows.args_nil ?_
      have hh : X.A.in1.in1.in1.handled = none := by simp [I1.ok.hd hc]
      have I2 : Inv X pins σ H1 { s1 with heap := h' } := I1.kept (t' := s1.toks) hk
      have ho1 : s1.heap.objs.size ∉ S1.own := fun m => Nat.lt_irrefl _ (lt1 _ m)
      have ho2 : s1.heap.objs.size + 1 ∉ S2.own := fun m => Nat.lt_irrefl _ (Nat.lt_trans (Nat.lt_succ_self _) (lt2 _ m))
      obtain ⟨P1, St1, D1, t1, v1⟩ := Side.drawsA (s := { s1 with heap := h' }) hh I2 (st1 _ _ h1) hs1 ho1
      obtain ⟨P2, St2, D2, t2, v2⟩ := Side.drawsA (s := { s1 with heap := h' }) hh I2 (st2 _ _ h2) hs2 ho2
      refine call_list_zip (s := { s1 with heap := h' }) (zip_sep2 lt1 lt2) D1 D2 (fun b hb => ?_) (fun b hb => ?_) (by rw [sizeLine_eq]; omega) hz hTI ⟨_, _, hTO⟩ t1 t2 fun h'' tk ts c q1 q2 q3 q4 => ?_
      · show b < h'.objs.size
        rw [hsz]
        rcases List.mem_cons.mp hb with rfl | hb
        · exact Nat.lt_add_of_pos_right (by decide)
        · exact Nat.lt_of_lt_of_le (lt1 _ hb) (Nat.le_add_right _ 5)
      · show b < h'.objs.size
        rw [hsz]
        rcases List.mem_cons.mp hb with rfl | hb
        · exact Nat.add_lt_add_left (by decide) _
        · exact Nat.lt_of_lt_of_le (lt2 _ hb) (Nat.le_add_right _ 5)
      · have q4 : ∀ b o, b ∉ [s1.heap.objs.size + 4, s1.heap.objs.size + 3, s1.heap.objs.size, s1.heap.objs.size + 1] → h'.get? b = some o → h''.get? b = some o := q4
        have q3 : h''.get? h'.objs.size = some { cls := .type "list", dict := none, data := .seq (ts.map Value.ref).toArray c, slots := #[] } := q3
        have q2 : ZPairs P1 P2 h'.objs.size h'.objs.size h'' ts := q2
        have big : ∀ {b : Addr}, h'.objs.size ≤ b → s1.heap.objs.size ≤ b := fun h => by rw [hsz] at h; exact Nat.le_trans (Nat.le_add_right _ 5) h
        have kk : ∀ b o, s1.heap.get? b = some o → h''.get? b = some o := fun b o eb => by
          have lb := Heap.lt_size eb
          refine q4 b o (fun m => ?_) (hk b o eb)
          simp only [List.mem_cons, List.not_mem_nil, or_false] at m
          rcases m with m | m | m | m
          · exact absurd (m ▸ lb) (Nat.not_lt.mpr (Nat.le_add_right _ 4))
          · exact absurd (m ▸ lb) (Nat.not_lt.mpr (Nat.le_add_right _ 3))
          · exact absurd (m ▸ lb) (Nat.lt_irrefl _)
          · exact absurd (m ▸ lb) (Nat.not_lt.mpr (Nat.le_add_right _ 1))
        obtain ⟨ps, pl, pp⟩ := choose_at (β := Addr × V × V) ts (fun j T x => x.1 = T ∧ S1.val X.K j H1 x.2.1 ∧ S2.val X.K j H1 x.2.2 ∧ ∃ u v, IsTupOf2 h'' T u v ∧ RelV x.2.1 u ∧ RelV x.2.2 v) fun j T eT => by
          obtain ⟨_, _, u, v, a1, a2, a3⟩ := q2.2 j T eT
          obtain ⟨x, rx, wx⟩ := v1 j u a1
          obtain ⟨y, ry, wy⟩ := v2 j v a2
          exact ⟨⟨T, x, y⟩, rfl, wx, wy, u, v, a3, rx, ry⟩
        have pts : ps.map (·.1) = ts := List.ext_getElem? fun j => by
          rw [List.getElem?_map]
          cases e1 : ps[j]? with
          | none =>
            rw [List.getElem?_eq_none_iff] at e1
            rw [List.getElem?_eq_none (by omega)]; rfl
          | some x =>
            obtain ⟨T, eT, h0, _⟩ := pp j x e1
            rw [eT, ← h0]; rfl
        have hS0 : H1 h'.objs.size = none := I1.hok.fresh (big (Nat.le_refl _))
        obtain ⟨H2, ok2, un2, kp2, tp2, no2⟩ := lay_tups (P := X.prog) (w := X.w) (fs := frs X.stack) (ex := []) (H0 := H1) (h := s1.heap) (h' := h'') ps H1 (I1.hok.kept kk) (Un.kept kk) (by rw [pts]; exact q2.1) fun x m => by
          obtain ⟨j, hj⟩ := List.mem_iff_getElem?.mp m
          obtain ⟨T, eT, h0, _, _, u, v, a3, rx, ry⟩ := pp j x hj
          obtain ⟨bT, _⟩ := q2.2 j T eT
          subst h0
          exact ⟨I1.hok.fresh (big bT), big bT, u, v, a3, rx, ry⟩
        have hS2 : H2 h'.objs.size = none := no2 _ hS0 fun m => by
          rw [pts] at m
          obtain ⟨j, hj⟩ := List.mem_iff_getElem?.mp m
          exact (q2.2 j _ hj).2.1 rfl
        have vr : Vals (ps.map fun p => V.ref p.1) (ts.map Value.ref) := by rw [← pts]; exact vals_refs ps
        have hlen : (ps.map fun p => V.ref p.1).length ≤ sizeLine := by rw [List.length_map, pl, q1, sizeLine_eq]; omega
        have new : ObjOk X.prog X.w (upd H2 h'.objs.size (.lst (ps.map fun p => V.ref p.1))) h'' h'.objs.size (.lst (ps.map fun p => V.ref p.1)) := ⟨hlen, ts.map Value.ref, c, vr, q3⟩
        have J : Inv X pins σ (upd H2 h'.objs.size (.lst (ps.map fun p => V.ref p.1))) { s1 with heap := h'', toks := tk } :=
          I1.call (ch := []) (t' := tk) (g' := s1.gens) (d' := s1.drawn) (Un.more un2 (big (Nat.le_refl _)) hS2) (ok2.laidN (fun _ _ e => e) hS2 new) I1.bare (fun _ z => nomatch z)
        refine ⟨.ref h'.objs.size, _, J, rfl, qq _ h'.objs.size ps (fun b o e => ?_) hS0 (by rw [pl, q1]) (fun j x ej => ?_) upd_same⟩
        · rw [upd_ne (ne_of_none e hS0)]
          exact kp2 b o e
        · obtain ⟨T, eT, h0, w1, w2, _⟩ := pp j x ej
          have hne : x.1 ≠ h'.objs.size := by rw [h0]; exact (q2.2 j T eT).2.1
          exact ⟨w1, w2, by rw [upd_ne hne]; exact tp2 x (List.mem_of_getElem? ej)⟩
end
def kLZ (Q : Rx → Fs → Prop) (rs : List D) (fs1 : Fs) : Prop := match rs with
  | [a, b] => match seqD a, seqD b with
    | some xs, some ys => min xs.length ys.length ≤ 1000 ∧ Q (.fr (.lst (zipD xs ys))) fs1
    | _, _ => False
  | _ => False
def aLZ (a : AL) (E : XP) (fs : Fs) (Q : Rx → Fs → Prop) : Prop := a E fs (kLZ Q)
theorem reps_zip {K : PySem.W.Frag} {W W2 : Wd} : ∀ (ps : List (Addr × V × V)) (xs ys : List D), ps.length = min xs.length ys.length →
    (∀ (j : Nat) (p : Addr × V × V), ps[j]? = some p → ∃ a b, xs[j]? = some a ∧ ys[j]? = some b ∧ Rep K W2 p.2.1 a ∧ Rep K W2 p.2.2 b ∧ W2.H p.1 = some (.tup [p.2.1, p.2.2])) → Reps K W2 (ps.map fun p => V.ref p.1) (zipD xs ys)
  | [], [], _, _, _ => .nil
  | [], _ :: _, [], _, _ => .nil
  | [], _ :: _, _ :: _, h, _ => by simp at h
  | p :: ps, [], ys, h, _ => by simp at h
  | p :: ps, _ :: _, [], h, _ => by simp at h
  | p :: ps, x :: xs, y :: ys, h, hp => by
    obtain ⟨a, b, e1, e2, r1, r2, t⟩ := hp 0 p rfl
    cases e1; cases e2
    refine .cons (.tup (.inl (.inl t)) (.cons r1 (.cons r2 .nil))) (reps_zip (W := W) ps xs ys (by simp only [List.length_cons] at h; omega) fun j q e => ?_)
    obtain ⟨a, b, e1, e2, r⟩ := hp (j + 1) q (by rw [List.getElem?_cons_succ]; exact e)
    exact ⟨a, b, by rw [List.getElem?_cons_succ] at e1; exact e1, by rw [List.getElem?_cons_succ] at e2; exact e2, r⟩
section
variable {X : Cx} {Ec : L2.St → XK} {e e2 : Expr} {p p2 q pos : Pos} {a : AL}
theorem ex_listzip (hm : X.mg "list" = none) (hm2 : X.mg "zip" = none) (ha : EL X Ec [e, e2] a) (hc : X.calm = true := by rfl) (hg : Gl X "list" := by rfl) (hg2 : Gl X "zip" := by rfl)
    (na : starEach [.Call (.Name "zip" p2) [e, e2] [] q] X.env = (false, eval (.Call (.Name "zip" p2) [e, e2] [] q) X.env) :: starEach [] X.env := by rfl)
    (hs : starEach [e, e2] X.env = (false, eval e X.env) :: starEach [e2] X.env := by rfl) (hpl : (backTo q (starEach [e2] X.env)).any (·.1) = false := by rfl) :
    EX X Ec (.Call (.Name "list" p) [.Call (.Name "zip" p2) [e, e2] [] q] [] pos) (aLZ a) :=
  EXt.x ⟨pe_listzip hc hg hm hg2 hm2 ha.p na hs hpl, fun c σ W fs E Q Q' F A hh k => by
    refine ha.s c σ W fs E _ _ F A hh fun vs ds W1 fs1 l1 F1 r1 q1 => ?_
    unfold kLZ at q1
    split at q1
    · rename_i da db
      split at q1
      · rename_i xs ys ea eb
        cases r1 with
        | cons ra rr => cases rr with
          | cons rb rr =>
            cases rr
            obtain ⟨S1, rfl, h1, v1⟩ := side_of ra ea
            obtain ⟨S2, rfl, h2, v2⟩ := side_of rb eb
            refine ⟨S1, S2, _, _, rfl, h1 W1 (Le.refl W1), h2 W1 (Le.refl W1), q1.1, fun H2 l ps kp hl pl pp hL => ?_⟩
            have lg : Le W1 ⟨H2, W1.F⟩ := Le.grow kp F1.dF
            refine k _ (.fr (.lst (zipD xs ys))) ⟨H2, W1.F⟩ fs1 (l1.trans lg) (F1.grow kp) ?_ q1.2
            refine F1.zx (z := .fr (.lst (zipD xs ys))) kp ⟨l, rfl, hl, fun f => F1.dF l f hl, _, hL, reps_zip (W := W1) ps xs ys pl fun j x ej => ?_⟩
            obtain ⟨w1, w2, t⟩ := pp j x ej
            have hj : j < ps.length := (List.getElem?_eq_some_iff.mp ej).1
            obtain ⟨a, e1, ra⟩ := v1 j W1 _ (Le.refl W1) w1 (by omega)
            obtain ⟨b, e2, rb⟩ := v2 j W1 _ (Le.refl W1) w2 (by omega)
            exact ⟨a, b, e1, e2, ra.mono lg, rb.mono lg, t⟩
      · exact q1.elim
    · exact q1.elim⟩
end
theorem oLZ_x : ∃ f, f = @aLZ := ⟨_, rfl⟩
noncomputable def oLZ := Classical.choose oLZ_x
theorem oLZ_s : @aLZ = oLZ := (Classical.choose_spec oLZ_x).symm
theorem oLZ_e {a : AL} {E : XP} {fs : Fs} {Q : Rx → Fs → Prop} : oLZ a E fs Q = a E fs (kLZ Q) := by rw [← oLZ_s]; rfl
end G
namespace G
open PySem PySem.Spec PyProof.Rows L2
section
variable {CX : CXT} {P : Program} {w : World} {K : PySem.W.Frag} {mg : Str → Option Value} {base : Heap} {N : List Str} {q : Str} {sc : Scope} {f : Addr} {cdv : Value} {A : Around} {outer : List Env} {s : Shared} {H : Hp} {E : XK}
theorem cx_K : (cxOf CX P w K mg base N q sc f cdv A outer s H E).K = K := rfl
theorem cx_Kn : (cxOf CX P w K mg base N q sc f cdv A outer s H E).nox.K = K := rfl
end
end G

set_option maxHeartbeats 4000000
namespace G
open PySem PySem.Spec PyProof.Rows L2 PySem.Froz
/-- len(set(a)), a a list of texts -/
def tLenSetX (K : PySem.W.Frag) (ta : TE) : TE := fun σ H Q => ta σ H fun x H1 => ∃ (l : Addr) (xs : List Str), x = .ref l ∧ SqL K H1 l (xs.map V.str) ∧ xs.length < 4000 ∧
  ∀ (ys : List Str), ys.Nodup → (∀ k, k ∈ ys ↔ k ∈ xs) → Q (.int (ys.length : Nat)) H1
section
variable {X : Cx} {Ec : L2.St → XK} {a : Expr} {ta : TE} {ax : AX} {p p2 q pos : Pos}
theorem pe_lenSetX (hc : X.calm = true) (hg : Gl X "len") (hm : X.mg "len" = none) (hg2 : Gl X "set") (hm2 : X.mg "set" = none) (ha : PE X a ta)
    (na : starEach [a] X.env = (false, eval a X.env) :: starEach [] X.env := by rfl) : PE X (.Call (.Name "len" p) [.Call (.Name "set" p2) [a] [] q] [] pos) (tLenSetX X.K ta) := by
  refine ⟨fun pins s σ H Q I h => Call_ (ld_blt I hg hm boot_len ?_)⟩
  refine PyProof.Rows.callWith_builtin1 (PyProof.Rows.args_cons ?_ rfl) rfl rfl
  refine Call_ (ld_blt I hg2 hm2 boot_set (PyProof.Rows.callWith_type1 (PyProof.Rows.args_cons (thn (ha.run pins s σ H _ I h) fun v s1 ⟨x, H1, I1, r1, q1⟩ => PyProof.Rows.args_nil ?_) na) na rfl))
  obtain ⟨l, xs, rfl, hq, h64, q1⟩ := q1
  cases r1
  obtain ⟨its, r, pl, hz⟩ := I1.list hq
  refine call_setX xs (I1.ok.hd hc) pl.isList (by simpa using strsAre_of r) (by unfold scanBound; omega) fun h' tk l' hX hk hl keep => ?_
  refine PyProof.Rows.args_nil ?_
  have I2 : Inv X pins σ H1 { s1 with heap := h', toks := tk } := I1.kept fun b o e => keep b o e
  obtain ⟨⟨es, ep, t⟩, ho, F⟩ := hX
  have ess : es.size = l'.length := F.ok.sz
  exact call_len_set ho ⟨rfl, rfl, rfl⟩ rfl F.ok.fit (by rw [ess]; omega) ⟨.int l'.length, H1, I2.tok _, ⟨_, by rw [ess]⟩, q1 l' F.nd hk⟩
def kLS (Q : Rx → Fs → Prop) (d : D) (fs1 : Fs) : Prop := match d with
  | .lst ds => ∃ zs : List Str, ds = zs.map D.str ∧ zs.length < 4000 ∧ ∀ ys : List Str, ys.Nodup → (∀ k, k ∈ ys ↔ k ∈ zs) → Q (.dt (.int (ys.length : Nat))) fs1
  | _ => False
def aLS (a : AX) (E : XP) (fs : Fs) (Q : Rx → Fs → Prop) : Prop := aD a E fs (kLS Q)
theorem ex_lenSet (hm : X.mg "len" = none) (hm2 : X.mg "set" = none) (h : EX X Ec a ax) (hc : X.calm = true := by rfl) (hg : Gl X "len" := by rfl) (hg2 : Gl X "set" := by rfl)
    (na : starEach [a] X.env = (false, eval a X.env) :: starEach [] X.env := by rfl) : EX X Ec (.Call (.Name "len" p) [.Call (.Name "set" p2) [a] [] q] [] pos) (aLS ax) :=
  EXt.x ⟨pe_lenSetX hc hg hm hg2 hm2 h.p na, fun c σ W fs E Q Q' F A hh k => by
    refine h.s.dd c σ W fs E _ _ F A hh fun v d W1 fs1 l1 F1 r1 q1 => ?_
    unfold kLS at q1
    split at q1
    · obtain ⟨zs, rfl, hl, q1⟩ := q1
      obtain ⟨b, vs, rfl, hs, r⟩ := rep_lst r1
      have hq := hs W1 (Le.refl W1)
      rw [reps_strs r] at hq
      exact ⟨b, zs, rfl, hq, hl, fun ys h1 h2 => k _ (.dt (.int (ys.length : Nat))) W1 fs1 l1 F1 (Rep.int _) (q1 ys h1 h2)⟩
    · exact q1.elim⟩
end
theorem oLS_x : ∃ f, f = @aLS := ⟨_, rfl⟩
noncomputable def oLS := Classical.choose oLS_x
theorem oLS_s : @aLS = oLS := (Classical.choose_spec oLS_x).symm
theorem oLS_e {a : AX} {E : XP} {fs : Fs} {Q : Rx → Fs → Prop} : oLS a E fs Q = oD a E fs (kLS Q) := by rw [← oLS_s, ← oD_s]; rfl
end G

set_option maxHeartbeats 4000000
namespace G
open PySem PySem.Spec PyProof.Rows L2 PySem.Froz
section
variable {P : Program} {w : World} {A : Around} {E : Value → Shared → Prop} {s : Shared}
/-- set(xs), xs a tuple of texts -/
theorem call_setXT {l : Addr} {items : Array Value} (xs : List Str) {Q : Value → Shared → Prop} (calm : A.handled = none) (isl : s.heap.IsTuple l items) (areS : StrsAre items.toList xs) (few : xs.length + 1 < scanBound)
    (fin : ∀ (h' : Heap) (tk : Nat) (ys : List Str), SetX P w h' s.heap.objs.size ys → (∀ k, k ∈ ys ↔ k ∈ xs) → ys.length ≤ xs.length → (∀ b o, s.heap.get? b = some o → h'.get? b = some o) → Q (.ref s.heap.objs.size) { s with heap := h', toks := tk }) :
    wpAny (model P w) A (call (.type "set") [.ref l]) Q E s := by
  have isz : items.size = xs.length := by have z := StrsAre.len_eq areS; rw [Array.length_toList] at z; exact z
  obtain ⟨cm, tlm, mro'⟩ := PySem.F.called_set.mro
  have made' := PySem.F.called_set.made; have sub' := PySem.F.called_set.sub
  refine wpAny_call (codeAny_of_tree ?_)
  show wpAny _ _ (callAny (.type "set") _) _ _ _
  refine wpAny_pure ⟨Code.quiet_builtin _ (by decide +kernel), codeAny_builtin PySem.F.entry_type_call ?_⟩
  rw [Around.under_plain (weight_type_call_type "set" [.ref l] []) rfl]
  have nt := PySem.F.called_set.notType; have cc := PySem.F.called_set.canCreate; have tc1 := PySem.F.typeCall_set_1 (.ref l)
  repeat (any_goals (first | assumption | wp_step))
  refine codeAny_mono (code_set_led1 (.ref l) (E := E) (Q₁ := fun obj s1 => obj = .ref s.heap.objs.size ∧ s1 = { s with heap := s.heap.push (set0 w) }) ⟨rfl, rfl⟩) fun r s1 hr => ?_
  cases r with
  | error e => exact hr
  | ok fl =>
    cases fl with
    | ret obj =>
      obtain ⟨rfl, rfl⟩ := hr
      have isS : (s.heap.push (set0 w)).get? s.heap.objs.size = some (set0 w) := Heap.get?_push_size _ rfl
      have isT : Shared.TypeIs { s with heap := s.heap.push (set0 w) } (.ref s.heap.objs.size) "set" := ⟨_, isS, rfl⟩
      have li := PySem.F.called_set.init.lookup; have bi := PySem.F.called_set.init.bind (.ref s.heap.objs.size)
      repeat (any_goals (first | assumption | wp_step))
      refine codeAny_mono (codeAny_call_builtin (R := wants (fun r s2 => r = .none ∧ ∃ h' tk ys, s2 = { s with heap := h', toks := tk } ∧ SetX P w h' s.heap.objs.size ys ∧ (∀ k, k ∈ ys ↔ k ∈ xs) ∧ ys.length ≤ xs.length ∧
          (∀ b o, s.heap.get? b = some o → h'.get? b = some o)) E) PySem.F.called_set.init.plain PySem.F.entry_set_init (check_set_init_1 isT ?_)) fun r2 s2 hr2 => ?_
      · obtain ⟨⟨oc, od, odt, osl⟩, hol, hcl, nl, hdl⟩ := isl
        simp only at hcl hdl
        subst hcl; subst hdl
        have hol' : (s.heap.push (set0 w)).get? l = some { cls := .type "tuple", dict := od, data := .seq items nl, slots := osl } := Heap.get?_push_of_some _ hol
        have sls := PySem.F.sub_tuple_set; have slf := PySem.F.sub_tuple_frozenset
        have nd : (Value.type "tuple" == Value.type "dict") = false := by decide
        have isl1 : (s.heap.push (set0 w)).IsTuple l items := ⟨_, hol', rfl, nl, rfl⟩
        unfold Builtin.«set.__init__» noKeywords Builtin.Frozenset.updateFrom
        generalize hPI : pyIter = PI
        wp_walk
        subst hPI
        refine wpAny_pyIter_tuple isl1 (wpAny_bind (wpAny_runValue ?_))
        have lS : l < s.heap.objs.size := Heap.lt_size hol
        have calm3 : A.in1.in1.in1.handled = none := by simp [calm]
        have pz : (s.heap.push (set0 w)).objs.size = s.heap.objs.size + 1 := Heap.size_push ..
        have neI : l ≠ (s.heap.push (set0 w)).objs.size := by rw [pz]; exact Nat.ne_of_lt (Nat.lt_succ_of_lt lS)
        have nin : s.heap.objs.size ∉ [(s.heap.push (set0 w)).objs.size, l] := by
          simp only [List.mem_cons, List.not_mem_nil, or_false, not_or]
          exact ⟨by rw [pz]; exact Nat.ne_of_lt (Nat.lt_succ_self _), Nat.ne_of_gt lS⟩
        have val : ∀ (i : Nat) (v : Value), items[i]? = some v → ∃ k t, xs[i]? = some k ∧ v = .str k t := fun i v hv => by
          have hi : i < xs.length := by rw [← isz]; exact (Array.getElem?_eq_some_iff.mp hv).1
          obtain ⟨t, e⟩ := SS.strs_at areS i v (by rw [Array.getElem?_toList]; exact hv)
          exact ⟨xs[i], t, List.getElem?_eq_getElem hi, by rw [e, List.getD_eq_getElem?_getD, List.getElem?_eq_getElem hi] <;> rfl⟩
        refine upd_loop ((Walks.tuple calm3 _ l neI items).toS) s.heap.objs.size nin xs isz few val (items.size - 0) 0 _ (by omega) (Nat.zero_le _)
          ⟨⟨_, Heap.get?_push_size _ rfl, rfl, rfl⟩, (isl1.push _)⟩ ?start ?out
        case start => exact ⟨[], set0_ok (Heap.get?_push_of_some _ isS), fun k => by simp, Nat.le_refl 0⟩
        case out =>
          intro s' ys mv h1 h2 h3
          obtain ⟨h', g2, d', tk', os'⟩ := s'
          have eg : g2 = s.gens := mv.gens
          have ed : d' = s.drawn := mv.drawn
          have eo : os' = s.os := mv.os
          subst eg; subst ed; subst eo
          show wpAny _ _ _ _ _ _
          refine wpAny_pure ?_
          show wpAny _ _ (ret Value.none) _ _ _
          refine wpAny_pure ⟨rfl, h', tk', ys, rfl, h1, h2, by omega, fun b o e => ?_⟩
          have b0 : b < s.heap.objs.size := Heap.lt_size e
          have pz0 : (s.heap.push (set0 w)).objs.size = s.heap.objs.size + 1 := Heap.size_push ..
          exact mv.heap b o (by
            simp only [List.mem_cons, List.not_mem_nil, or_false, not_or]
            exact ⟨Nat.ne_of_lt b0, by rw [pz0]; exact Nat.ne_of_lt (Nat.lt_succ_of_lt b0)⟩) (Heap.get?_push_of_some _ (Heap.get?_push_of_some _ e))
      · cases r2 with
        | error e => exact hr2
        | ok fl2 =>
          cases fl2 with
          | ret r =>
            obtain ⟨rfl, h', tk, ys, rfl, a1, a2, a3, a4⟩ := hr2
            repeat (any_goals (first | assumption | wp_step))
            exact fin _ _ _ a1 a2 a3 a4
          | _ => exact hr2.elim
    | _ => exact hr.elim
end
/-- len(set(a)), a a tuple of texts -/
def tLenSetT (K : PySem.W.Frag) (ta : TE) : TE := fun σ H Q => ta σ H fun x H1 => ∃ (l : Addr) (xs : List Str), x = .ref l ∧ SqT K H1 l (xs.map V.str) ∧ xs.length < 4000 ∧
  ∀ (ys : List Str), ys.Nodup → (∀ k, k ∈ ys ↔ k ∈ xs) → Q (.int (ys.length : Nat)) H1
section
variable {X : Cx} {Ec : L2.St → XK} {a : Expr} {ta : TE} {ax : AX} {p p2 q pos : Pos}
theorem pe_lenSetT (hc : X.calm = true) (hg : Gl X "len") (hm : X.mg "len" = none) (hg2 : Gl X "set") (hm2 : X.mg "set" = none) (ha : PE X a ta)
    (na : starEach [a] X.env = (false, eval a X.env) :: starEach [] X.env := by rfl) : PE X (.Call (.Name "len" p) [.Call (.Name "set" p2) [a] [] q] [] pos) (tLenSetT X.K ta) := by
  refine ⟨fun pins s σ H Q I h => Call_ (ld_blt I hg hm boot_len ?_)⟩
  refine PyProof.Rows.callWith_builtin1 (PyProof.Rows.args_cons ?_ rfl) rfl rfl
  refine Call_ (ld_blt I hg2 hm2 boot_set (PyProof.Rows.callWith_type1 (PyProof.Rows.args_cons (thn (ha.run pins s σ H _ I h) fun v s1 ⟨x, H1, I1, r1, q1⟩ => PyProof.Rows.args_nil ?_) na) na rfl))
  obtain ⟨l, xs, rfl, hq, h64, q1⟩ := q1
  cases r1
  obtain ⟨its, r, pl, hz⟩ := I1.tuple hq
  refine call_setXT xs (I1.ok.hd hc) pl (by simpa using strsAre_of r) (by unfold scanBound; omega) fun h' tk l' hX hk hl keep => ?_
  refine PyProof.Rows.args_nil ?_
  have I2 : Inv X pins σ H1 { s1 with heap := h', toks := tk } := I1.kept fun b o e => keep b o e
  obtain ⟨⟨es, ep, t⟩, ho, F⟩ := hX
  have ess : es.size = l'.length := F.ok.sz
  exact call_len_set ho ⟨rfl, rfl, rfl⟩ rfl F.ok.fit (by rw [ess]; omega) ⟨.int l'.length, H1, I2.tok _, ⟨_, by rw [ess]⟩, q1 l' F.nd hk⟩
theorem rep_tup {K : PySem.W.Frag} {W : Wd} {v : V} {ds : List D} (h : Rep K W v (.tup ds)) : ∃ a vs, v = .ref a ∧ (∀ W2, Le W W2 → SqT K W2.H a vs) ∧ Reps K W vs ds := by
  cases h with
  | tup st r => exact ⟨_, _, rfl, fun W2 l => l.sqT st, r⟩
def kLT (Q : Rx → Fs → Prop) (d : D) (fs1 : Fs) : Prop := match d with
  | .tup ds => ∃ zs : List Str, ds = zs.map D.str ∧ zs.length < 4000 ∧ ∀ ys : List Str, ys.Nodup → (∀ k, k ∈ ys ↔ k ∈ zs) → Q (.dt (.int (ys.length : Nat))) fs1
  | _ => False
def aLT (a : AX) (E : XP) (fs : Fs) (Q : Rx → Fs → Prop) : Prop := aD a E fs (kLT Q)
theorem ex_lenSetT (hm : X.mg "len" = none) (hm2 : X.mg "set" = none) (h : EX X Ec a ax) (hc : X.calm = true := by rfl) (hg : Gl X "len" := by rfl) (hg2 : Gl X "set" := by rfl)
    (na : starEach [a] X.env = (false, eval a X.env) :: starEach [] X.env := by rfl) : EX X Ec (.Call (.Name "len" p) [.Call (.Name "set" p2) [a] [] q] [] pos) (aLT ax) :=
  EXt.x ⟨pe_lenSetT hc hg hm hg2 hm2 h.p na, fun c σ W fs E Q Q' F A hh k => by
    refine h.s.dd c σ W fs E _ _ F A hh fun v d W1 fs1 l1 F1 r1 q1 => ?_
    unfold kLT at q1
    split at q1
    · obtain ⟨zs, rfl, hl, q1⟩ := q1
      obtain ⟨b, vs, rfl, hs, r⟩ := rep_tup r1
      have hq := hs W1 (Le.refl W1)
      rw [reps_strs r] at hq
      exact ⟨b, zs, rfl, hq, hl, fun ys h1 h2 => k _ (.dt (.int (ys.length : Nat))) W1 fs1 l1 F1 (Rep.int _) (q1 ys h1 h2)⟩
    · exact q1.elim⟩
end
theorem oLT_x : ∃ f, f = @aLT := ⟨_, rfl⟩
noncomputable def oLT := Classical.choose oLT_x
theorem oLT_s : @aLT = oLT := (Classical.choose_spec oLT_x).symm
theorem oLT_e {a : AX} {E : XP} {fs : Fs} {Q : Rx → Fs → Prop} : oLT a E fs Q = oD a E fs (kLT Q) := by rw [← oLT_s, ← oD_s]; rfl
end G

set_option maxHeartbeats 4000000
namespace G
open PySem PySem.Spec PyProof.Rows L2 PySem.Froz
/-- a list, some times -/
def rRepA (K : PySem.W.Frag) : R2 := fun x y H Q => ∃ a k xs, x = V.ref a ∧ y = V.int k ∧ SqL K H a xs ∧ 0 ≤ k ∧ k ≤ 1000 ∧ xs.length ≤ 1000 ∧ ∀ p, H p = none → Q (.ref p) (upd H p (.lst (List.replicate k.toNat xs).flatten))
section
variable {X : Cx}
theorem op_repA : OpR X (binaryOp .Mult) (rRepA X.K) := by
  intro pins s σ H x y v u Q I rx ry h
  obtain ⟨a, k, xs, rfl, rfl, hs, k0, k1, hx, q⟩ := h
  obtain rfl : v = Value.ref a := rx
  obtain ⟨t, rfl⟩ := ry
  obtain ⟨its, rv, ⟨⟨cls, dd, data, sl⟩, n, ho, hc, hdn, hd⟩, hlen⟩ := I.list hs
  have hc1 : cls = Value.type "list" := hc
  have hd1 : data = Data.seq its.toArray n := hd
  subst hc1 hd1
  have hz : its.length ≤ 1000 := by rw [← rv.length]; exact hx
  have hsl := sizeLine_eq
  have hm : its.toArray.size * k.toNat ≤ 1000000 := by
    rw [List.size_toArray]
    exact Nat.le_trans (Nat.mul_le_mul hz (show k.toNat ≤ 1000 by omega)) (by decide)
  refine wpAny_binaryOp_repeat_ref (T := "list") (U := "int") (by decide) ⟨_, ho, rfl⟩ (fun s' => typeIs_int s' k t) noFill_list_mul F.fills_int_mul F.slot_int_rmul repeat_list F.slot_int_index.lookup
    (call_meets F.slot_int_rmul (typeIs_int s k t) F.entry_int_rmul (F.args_int_rmul_2 _ _) (lm_int_rmul_list_any k t a its.toArray n dd sl)
      ⟨ho, rfl, ⟨_, ho, rfl⟩, call_meets F.slot_list_mul ⟨_, ho, rfl⟩ F.entry_list_mul (F.args_list_mul_2 _ _)
        (lm_list_mul_any a its.toArray n dd sl k t (by simp [Builtin.List.listFitsIndex]; omega) (by omega) (by simp only [Builtin.List.listTooLong, decide_eq_true_eq]; omega))
        ⟨ho, ?_⟩⟩)
  have e : List.foldl (fun x1 x2 => x1 ++ x2) #[] (List.replicate (if its.toArray.isEmpty = true then 0 else k.toNat) its.toArray) = (List.replicate k.toNat its).flatten.toArray := by
    rw [listMul_foldl_if]
  rw [e]
  have hzl : (List.replicate k.toNat xs).flatten.length ≤ sizeLine := by
    rw [PyProof.Rows.lm_len_rep_flat, Nat.mul_comm]
    have : xs.length * k.toNat ≤ 1000 * 1000 := Nat.mul_le_mul hx (by omega)
    omega
  exact ⟨.ref s.heap.objs.size, upd H s.heap.objs.size (.lst (List.replicate k.toNat xs).flatten), I.laid (t' := s.toks) (fun b o e => Heap.get?_push_of_some _ e) (Nat.le_refl _) ⟨hzl, _, 0, rv.rep k.toNat, Heap.get?_push_size _ rfl⟩, rfl, q _ (I.hok.fresh (Nat.le_refl _))⟩
theorem op_mulL : OpR X (binaryOp .Mult) (fun x y H Q => (rI CMul (fun i j => .int (i * j)) x y H Q ∨ rMulS x y H Q) ∨ rRepA X.K x y H Q) := opr_or op_mulA op_repA
end
def arMulL (d e : D) (Q : Zx → Prop) : Prop := match d, e with
  | .int i, .int j => CMul i j ∧ Q (.dt (.int (i * j)))
  | .str z, .int n => (0 ≤ n ∧ n ≤ 1000 ∧ z.length ≤ 1000) ∧ Q (.dt (.str (Txt.mul z n)))
  | .lst ds, .int n => (0 ≤ n ∧ n ≤ 1000 ∧ ds.length ≤ 1000) ∧ Q (.fr (.lst (List.replicate n.toNat ds).flatten))
  | _, _ => False
theorem reps_rep {K : PySem.W.Frag} {W : Wd} {vs : List V} {ds : List D} (r : Reps K W vs ds) : ∀ k : Nat, Reps K W (List.replicate k vs).flatten (List.replicate k ds).flatten
  | 0 => .nil
  | k + 1 => by rw [List.replicate_succ, List.replicate_succ, List.flatten_cons, List.flatten_cons]; exact r.app (reps_rep r k)
theorem op2_mulL {K : PySem.W.Frag} : Op2 K (fun x y H Q => (rI CMul (fun i j => .int (i * j)) x y H Q ∨ rMulS x y H Q) ∨ rRepA K x y H Q) arMulL := fun W x y d e Q Q' dF hx hy h k => by
  unfold arMulL at h
  split at h
  · exact .inl (.inl (op2_mul W x y _ _ Q Q' dF hx hy h k))
  · cases hx.str; cases hy.int
    exact .inl (.inr ⟨_, _, rfl, rfl, h.1.1, h.1.2.1, h.1.2.2, k _ _ W.H (Exs.refl _) (zx0 (.str _)) h.2⟩)
  · rename_i ds n
    obtain ⟨a, vs, rfl, ha, ra⟩ := hx.lst
    cases hy.int
    exact .inr ⟨a, n, vs, rfl, rfl, ha, h.1.1, h.1.2.1, by rw [ra.len]; exact h.1.2.2, fun p np => k _ (.fr (.lst (List.replicate n.toNat ds).flatten)) _ (Exs.new np) ⟨p, rfl, np, fun f => dF p f np, _, upd_same, (reps_rep ra n.toNat).mono (Le.grow (Exs.new np) dF)⟩ h.2⟩
  · exact h.elim
end G

namespace G
open PySem PySem.Spec PyProof.Rows L2

/-! walks over the keys of a dict that is new: it is locked for good -/
def iKeysF (td : TE) : TI := fun σ H R => td σ H fun x H1 => ∃ d kvs, x = .ref d ∧ H1 d = some (.dK kvs) ∧ ∀ od, R (Itk d od kvs) (upd H1 d (.frz od (.dK kvs)))
theorem pi_keysF {X : Cx} {tg e : Expr} {td : TE} (he : PE X e td) : PI X tg e (iKeysF td) := by
  refine ⟨fun pins s σ H R I h => ?_⟩
  refine thn (he.run pins s σ H _ I h) fun u s1 ⟨x, H1, I1, rx, d, kvs, ex, hd, q⟩ => ?_
  subst ex
  obtain rfl : u = Value.ref d := rx
  obtain ⟨od, I2⟩ := I1.lock hd trivial
  obtain ⟨hs, hgd, hx, es, ep, vs, hdt, hsz, kv, hm⟩ := I2.frzK upd_same
  refine iter_keys hs hgd hx hdt (pi_one (tk := s1.toks) I2 _ (turn_keys _ hdt) ⟨_, Heap.get?_push_size _ rfl, rfl, ?_⟩ (q od))
  rw [hsz] <;> rfl
def kyD : Key → D
  | .inl i => .int i
  | .inr x => .str x
theorem rep_ky {K : PySem.W.Frag} {W : Wd} (k : Key) : Rep K W (L2.kV k) (kyD k) := by
  cases k with
  | inl i => exact .int i
  | inr x => exact .str x
theorem wk_keys {K : PySem.W.Frag} {W : Wd} {d : Addr} {od : Obj} {kvs : List (Key × V)} (h : W.H d = some (.frz od (.dK kvs))) : Wk K (Itk d od kvs) W (kvs.map fun p => kyD p.1) :=
  ⟨fun i W2 l hi => ⟨l.frz _ _ _ h, by simpa using hi⟩, fun i W2 l hi => ⟨l.frz _ _ _ h, by simpa using Nat.le_of_eq hi.symm⟩, fun i W2 x H' l dF y hi => by
    obtain ⟨rfl, k, v, e, rfl⟩ := y
    exact ⟨kyD k, by rw [List.getElem?_map, e]; rfl, Exs.refl _, rep_ky k⟩⟩
def kIK (Q : List D → Fs → Prop) (r : Rx) (fs1 : Fs) : Prop := match r with
  | .fr (.dct ks _) => Q (ks.map kyD) fs1
  | _ => False
def aIK (a : AX) (E : XP) (fs : Fs) (Q : List D → Fs → Prop) : Prop := a E fs (kIK Q)
/-- the frame stands where one that nobody here owns is locked -/
theorem Fr.lock {K : PySem.W.Frag} {c : Cn} {σ : L2.St} {W : Wd} {fs : Fs} {p : Addr} {o : HO} (h : Fr K c σ W fs) (ho : W.H p = some o) (mu : Mut (some o)) (h0 : c.W0.H p = none) (nf : ¬ W.F p) (hk : c.kp p = none)
    (no : ∀ (i : Nat) (q : Bool) (d : D), fs[i]? = some (.own q d) → σ[i]? ≠ some (some (.ref p))) {o' : HO} : Le W ⟨upd W.H p o', W.F⟩ ∧ Fr K c σ ⟨upd W.H p o', W.F⟩ fs := by
  have l : Le W ⟨upd W.H p o', W.F⟩ := Le.write ho mu nf
  obtain ⟨ad, q⟩ := h
  refine ⟨l, ad, q.move l (fun j b d ej => ⟨upd_ne fun z => no j b d ej (z ▸ (q.own ej).1), (q.own ej).2.1⟩) (fun b u e n => ?_) q.nF (fun b f => ?_) fun b u e z => ⟨?_, (q.kp b u e).2.1⟩⟩
  · have hb : b ≠ p := fun z => by subst z; rw [h0] at e; cases e
    exact (upd_ne hb).trans (q.keep b u e n)
  · have hb : b ≠ p := fun z => nf (z ▸ f)
    show upd W.H p _ b ≠ none
    rw [upd_ne hb]
    exact q.dF b f
  · have hb : b ≠ p := fun z => by subst z; rw [hk] at e; cases e
    exact (upd_ne hb).trans z
theorem ix_keys {X : Cx} {Ec : L2.St → XK} {tg e : Expr} {a : AX} (h : EX X Ec e a) : IX X Ec tg e (aIK a) := IXt.x ⟨pi_keysF h.p, fun c σ W fs E R Q' F A ha k => by
  refine h.s c σ W fs E _ _ F A ha fun v r W1 fs1 l1 F1 r1 q1 => ?_
  cases r with
  | fr x => cases x with
    | dct ks ds =>
      obtain ⟨p, rfl, h0, nf, ⟨kvs, ho, hn, hr⟩, no, hk⟩ := r1
      refine ⟨p, kvs, rfl, ho, fun od => ?_⟩
      obtain ⟨l2, F2⟩ := F1.lock ho trivial h0 nf hk no (o' := .frz od (.dK kvs))
      refine k _ (ks.map kyD) ⟨_, W1.F⟩ fs1 (l1.trans l2) F2 ?_ q1
      have := wk_keys (K := X.K) (W := ⟨upd W1.H p (.frz od (.dK kvs)), W1.F⟩) (d := p) (od := od) (kvs := kvs) upd_same
      rw [← hn, List.map_map]
      exact this
    | _ => exact q1.elim
  | _ => exact q1.elim⟩
noncomputable def oIK : AX → AI := Classical.choose (⟨aIK, fun _ => rfl⟩ : ∃ o : AX → AI, ∀ a, o a = aIK a)
theorem oIK_s (a : AX) : aIK a = oIK a := (Classical.choose_spec (⟨aIK, fun _ => rfl⟩ : ∃ o : AX → AI, ∀ a, o a = aIK a) a).symm
theorem oIK_e {a : AX} {E : XP} {fs : Fs} {Q : List D → Fs → Prop} : oIK a E fs Q = a E fs (kIK Q) := by rw [← oIK_s]; rfl
end G

namespace G
open PySem PySem.Spec PyProof.Rows L2

/-! what is never reached -/
def aDead (_ : XP) (_ : AEnds) (_ : Fs) : Prop := False
theorem sx_dead {X : Cx} {Ec : L2.St → XK} {st : Stmt} : SX X Ec st aDead := ⟨⟨fun _ _ _ _ _ _ ⟨_, _, _, _, _, _, _, _, h, _⟩ => h.elim⟩⟩

/-! an exception that was caught, as a thing of the heap -/
section
variable {X : Cx} {pins : List (Addr × Obj)} {σ : L2.St} {H : Hp} {s : Shared}
theorem xO_ok {P : Program} {w : World} {h : Heap} {p : Addr} {c : Value} {od : Option Addr} {oe : Obj} {vs : Array Value} (e : h.get? p = some oe) (h1 : oe.cls = c) (h2 : oe.dict = od) (h3 : oe.data = .fields vs) : ObjOk P w H h p (xO p c od) :=
  ⟨⟨oe, vs, e, h1, h2, h3⟩, ⟨oe, e⟩, fun _ _ ⟨o, v, q, r⟩ k => ⟨o, v, k o q, r⟩⟩
theorem xO_at {P : Program} {w : World} {h : Heap} {p : Addr} {c : Value} {od : Option Addr} (hok : HOk P w H h) (e : H p = some (xO p c od)) : ∃ (oe : Obj) (vs : Array Value), h.get? p = some oe ∧ oe.cls = c ∧ oe.dict = od ∧ oe.data = .fields vs := by
  have x : ObjOk P w H h p (.ext fun h => ∃ (oe : Obj) (vs : Array Value), h.get? p = some oe ∧ oe.cls = c ∧ oe.dict = od ∧ oe.data = .fields vs) := hok p _ e
  exact x.1
/-- it is tracked from here on -/
theorem inv_hold {a : Addr} {c : Value} {od : Option Addr} {oe : Obj} {vs : Array Value} (I : Inv X pins σ H s) (ho : s.heap.get? a = some oe) (hc : oe.cls = c) (hd : oe.dict = od) (hv : oe.data = .fields vs) (na : H a = none)
    (n0 : X.s_0.heap.get? a = none) (nL : a ≠ X.env.locals) (np : ∀ p ∈ X.pn ++ pins, p.1 ≠ a) : Inv X pins σ (upd H a (xO a c od)) s := by
  have nH : ∀ b o, H b = some o → b ≠ a := fun b o e z => by rw [z, na] at e; cases e
  refine ⟨I.ok, I.os, I.bare, ⟨I.base.keep, I.base.slot, fun b o e n hx => ?_, I.base.there, fun b xs e => ?_, fun b o x e => ?_, fun b ps e => ?_⟩, I.loc, I.cell, ?_, fun x k e => ?_, fun p hp => ?_, fun b o e => ?_, I.len⟩
  · rw [upd_ne (fun z => by rw [z, n0] at e; cases e)]; exact I.base.free b o e n hx
  · rw [upd_ne (nH _ _ (I.base.tups b xs e))]; exact I.base.tups b xs e
  · rw [upd_ne (nH _ _ (I.base.frzs b o x e))]; exact I.base.frzs b o x e
  · obtain ⟨m, q⟩ := I.base.tbls b ps e
    exact ⟨m, by rw [upd_ne (nH _ _ q)]; exact q⟩
  · rw [upd_ne (Ne.symm nL)]; exact I.free
  · have hk : k ≠ a := fun z => by
      obtain ⟨v, o, h1, h2⟩ := I.cell x k e
      rw [z, ho] at h1
      cases h1
      rw [hv] at h2
      cases h2
    rw [upd_ne hk]; exact I.freeC x k e
  · obtain ⟨e, n, r⟩ := I.pin p hp
    exact ⟨e, by rw [upd_ne (np p hp)]; exact n, r⟩
  · by_cases hb : b = a
    · subst hb; rw [upd_same] at e; cases e; exact xO_ok ho hc hd hv
    · rw [upd_ne hb] at e
      exact (I.hok b o e).stay (fun c v _ q => q) (fun c q => by rw [upd_ne (nH _ _ q)]; exact q) fun c xs q => by rw [upd_ne (nH _ _ q)]; exact q
theorem inv_hot (I : Inv X pins σ H s) (a : Addr) : Inv (X.suite a (X.pn ++ pins)) [] σ H s :=
  ⟨I.ok.suite a _, I.os, I.bare, I.base, I.loc, I.cell, I.free, I.freeC, fun p hp => I.pin p (by simpa using hp), I.hok, I.len⟩
theorem inv_cool {a : Addr} {pq : List (Addr × Obj)} (I : Inv (X.suite a (X.pn ++ pins)) pq σ H s) (ok : X.Ok) : Inv X pins σ H s :=
  ⟨ok, I.os, I.bare, I.base, I.loc, I.cell, I.free, I.freeC, fun p hp => I.pin p (List.mem_append_left _ hp), I.hok, I.len⟩
end

/-! try: body, except x as n: suite; what is caught stands as a thing from then on -/
def wHold (K : PySem.W.Frag) (c : Value) (i : Nat) (ts : Value → Option Addr → TS) (Wout : WX) (D : Ends) : WX := fun cls d τ H =>
  ∃ b, PySem.W.exmOne K cls c = some b ∧ (b = false → Wout cls d τ H) ∧
    (b = true → ∀ a, H a = none → ts cls d ⟨fun τ' H' => D.nx (τ'.set i none) H', D.rt, fun τ' H' => D.bk (τ'.set i none) H', fun τ' H' => D.ct (τ'.set i none) H'⟩ (τ.set i (some (.ref a))) (upd H a (xO a cls d)))
section
variable {X : Cx} {x n : Str} {c : Value} {i : Nat} {body suite : List Stmt} {b₀ : Stmt} {np pos pos' : Pos} {tb : WX → TS} {ts : Value → Option Addr → TS} {Wout : WX}
theorem ps_try_hold (hs : X.stack = X.env :: X.outer) (hf : X.env.frame = some X.env.locals) (hex : X.ex = []) (hN : X.N.Nodup) (hi : X.N[i]? = some n) (hln : X.env.kindOf n = some .local) (hc : Names X x c) (tk : Takes X Wout)
    (hb : ∀ (W : WX) (pn : List (Addr × Obj)) (xe : Value → Shared → Prop), Takes (X.tr pn xe) W → PassesOwn (model X.prog X.w) X.A X.env xe → PSs (X.tr pn xe) body (tb W))
    (hsu : ∀ (a : Addr) (pn : List (Addr × Obj)) (cls : Value) (d : Option Addr), PSs (X.suite a pn) (b₀ :: suite) (ts cls d)) :
    PS X (.Try body [.ExceptHandler (some (.Name x np)) (some n) (b₀ :: suite) pos'] [] [] pos) (fun D τ H => tb (wHold X.K c i ts Wout D) D τ H) := by
  refine ⟨fun pins s σ H D I h => wpAny_Try_except ?_⟩
  have ok := I.ok
  obtain ⟨here, hhere⟩ : ∃ l, l = X.env :: X.outer := ⟨_, rfl⟩
  have hfr : X.A.frames = some (X.env :: X.outer) := by rw [ok.frames, hs]
  let xq : Value → Shared → Prop := fun e s₁ => wpAny (model X.prog X.w) X.A (noteFrame e X.env) (fun _ s₂ => wpAny (model X.prog X.w) X.A (setFlight e none) (fun _ s₃ =>
    wpAny (model X.prog X.w) X.A (handleBy e X.env [.ExceptHandler (some (.Name x np)) (some n) (b₀ :: suite) pos']) (SP X pins D) X.xe s₃) X.xe s₂) X.xe s₁
  have caught : Takes (X.tr (X.pn ++ pins) xq) (wHold X.K c i ts Wout D) := fun u s' xx => by
    obtain ⟨a, B, sI, pins', σ', H', cls, d, rfl, J', nb, up, sky, na, os, ag, b, hb1, hno, hyes⟩ := xx
    have J : Inv X pins σ' H' sI := J'.ofTry ok
    have sky' : Sky B (X.env :: X.outer) a (Zc cls d) X.env.locals s'.heap := hs ▸ sky
    refine Sky.land Zc.steady hfr hf sky' fun h3 fl3 up3 => ?_
    have J3 : Inv X pins σ' H' { s' with heap := h3 } := J.landed nb fl3.1 (up.trans up3) os ag
    obtain ⟨o3, v3, e3, z3, d3⟩ := fl3.there
    have off : a ∉ frs (X.env :: X.outer) := fun hm => by
      obtain ⟨_, o', e', hnf⟩ := fl3.2.2.1.mem hm
      rw [e3] at e'
      cases e'
      exact hnf _ d3
    have nL : a ≠ X.env.locals := fun z => off (List.mem_filterMap.mpr ⟨X.env, List.mem_cons_self, by rw [hf, z]⟩)
    have nI : sI.heap.get? a = none := by
      cases q : sI.heap.get? a with
      | none => rfl
      | some o =>
        have := nb a o q (hs ▸ off)
        rw [fl3.2.1] at this
        cases this
    have n0 : X.s_0.heap.get? a = none := by
      cases q : X.s_0.heap.get? a with
      | none => rfl
      | some o =>
        obtain ⟨o', q'⟩ := J.base.there a o q (by rw [hex]; exact fun z => nomatch z)
        rw [nI] at q'
        cases q'
    have hp : ∀ p ∈ X.pn ++ pins, p.1 ≠ a := fun p hm z => by
      have q := (J.pin p hm).1
      rw [z, nI] at q
      cases q
    refine wpAny_handleBy_cons (codeAny_handlers_test ?_) (by intro q; cases q)
    have kind : PySem.W.Looks (model X.prog X.w) h3 (typeOf (.ref a)) cls := fun A Q E s k q => wpAny_typeOf_ref (k _ _ e3) (by rw [z3.1]; exact q)
    have LM := PySem.W.exm_one (M := model X.prog X.w) J3.kIn kind hb1
    have test : ∀ {Q : Value → Shared → Prop} {E : Value → Shared → Prop}, Q c { s' with heap := h3 } → wpAny (model X.prog X.w) (X.A.mark (some (.ref a))) (eval (.Name x np) X.env) Q E { s' with heap := h3 } := fun q => by
      obtain ⟨hg, hdbg, hm | ⟨hm, hv, hnn⟩⟩ := hc
      · exact ld_glob (X := X.suite a (X.pn ++ pins)) (inv_hot J3 a) hg hm q hdbg
      · exact ld_blt (X := X.suite a (X.pn ++ pins)) (inv_hot J3 a) hg hm hv q hnn hdbg
    refine test (LM.here ?_)
    cases b with
    | true =>
      refine codeAny_handlers_suite_as (HandSPX.lands_againZ fl3 fun h4 fl4 up4 => ?_)
      obtain ⟨o4, v4, e4, z4, d4⟩ := fl4.there
      have J4 := inv_hot (inv_hold (J.landed nb fl4.1 ((up.trans up3).trans up4) os ag : Inv X pins σ' H' { s' with heap := h4 }) e4 z4.1 z4.2 d4 na n0 nL hp) a
      refine store_ok (X := X.suite a (X.pn ++ pins)) (v := .ref a) J4 hN hi (.inl hln) rfl (fun s5 J5 => ?_) (.inr hln)
      refine wpAny_mono ((hsu a (X.pn ++ pins) cls d).run [] s5 _ _ _ J5 (hyes rfl a na)) (fun f s6 hsp => ?_) (fun _ _ z => False.elim z)
      have last : ∀ {σ6 : L2.St} {H6 : Hp} {Q : Shared → Prop}, Inv (X.suite a (X.pn ++ pins)) [] σ6 H6 s6 → (∀ s7, Inv X pins (σ6.set i none) H6 s7 → Q s7) →
          wpAny (model X.prog X.w) X.A (do bindName X.env n .none; unbindBehindTheSuite X.env n pos') (fun _ s7 => Q s7) X.xe s6 := fun J6 hq => gone_ok (inv_cool J6 ok) hN hi hln hq
      cases f with
      | ret u =>
        obtain ⟨v6, σ6, H6, J6, r6, q6⟩ := hsp
        exact last J6 fun s7 J7 => ⟨_, _, _, J7, r6, q6⟩
      | next =>
        obtain ⟨σ6, H6, J6, q6⟩ := hsp
        exact last J6 fun s7 J7 => ⟨_, _, J7, q6⟩
      | cont =>
        obtain ⟨σ6, H6, J6, q6⟩ := hsp
        exact last J6 fun s7 J7 => ⟨_, _, J7, q6⟩
      | brk =>
        obtain ⟨σ6, H6, J6, q6⟩ := hsp
        exact last J6 fun s7 J7 => ⟨_, _, J7, q6⟩
    | false =>
      refine wpAny_handleBy_nil ?_
      obtain ⟨_, _, _, oe, vs, T, oT, ts', he, _, hd, h1, _⟩ := id fl3
      unfold PySem.passOn
      refine wpAny_bind (wpAny_field he hd h1 ?_)
      rw [if_neg (by simp : ¬ ((Value.ref T == Value.none) = true))]
      have on : wpAny (model X.prog X.w) X.A (setFlight (.ref a) X.env.frame) (fun _ s4 => wpAny (model X.prog X.w) X.A (throw (.ref a) : Sem Flow) (SP X pins D) X.xe s4) X.xe { s' with heap := h3 } := by
        rw [hf]
        refine HandSPX.setFlight_upZ fl3 fun h4 hh4 up4 => wpAny_throw (tk _ _ ?_)
        exact ⟨a, B, sI, pins, σ', H', cls, d, rfl, J, nb, (up.trans up3).trans up4, .inr (.inr (hs ▸ hh4)), na, os, ag, hno rfl⟩
      first
        | exact wpAny_bind (wpAny_pure (wpAny_bind on))
        | exact wpAny_bind on
  refine wpAny_mono ((hb _ _ xq caught PassesOwn.looking).run [] s σ H D (I.toTry _) h) (fun f s1 hsp => ?_) (fun e s1 he => he)
  cases f with
  | ret u => exact let ⟨v, τ, G, J, r, q⟩ := hsp; ⟨v, τ, G, J.ofTry ok, r, q⟩
  | next => exact let ⟨τ, G, J, q⟩ := hsp; wpAny_execs_nil ⟨τ, G, J.ofTry ok, q⟩
  | cont => exact let ⟨τ, G, J, q⟩ := hsp; ⟨τ, G, J.ofTry ok, q⟩
  | brk => exact let ⟨τ, G, J, q⟩ := hsp; ⟨τ, G, J.ofTry ok, q⟩
end

/-! .. over frames -/
section
variable {K : PySem.W.Frag} {c : Cn} {σ : L2.St} {W W' : Wd} {fs : Fs}
theorem Fr.mark (h : Fr K c σ W fs) : Fr K { c with wl := W } σ W fs := let ⟨ad, q⟩ := h
  ⟨ad, q.len, ⟨q.le.1, Le.refl W⟩, q.slot, q.sep, q.keep, q.kF, q.nF, q.dF, q.loc, q.brw, q.pin, q.kp⟩
theorem Fr.unmark (h : Fr K { c with wl := W' } σ W fs) (l : Le c.wl W') : Fr K c σ W fs ∧ Le W' W := let ⟨ad, q⟩ := h
  ⟨⟨ad, q.len, ⟨q.le.1, l.trans q.le.2⟩, q.slot, q.sep, q.keep, q.kF, q.nF, q.dF, q.loc, q.brw, q.pin, q.kp⟩, q.le.2⟩
theorem Fr.wl (h : Fr K c σ W fs) : Le c.wl W := let ⟨_, q⟩ := h; q.le.2
theorem Fr.setU {i : Nat} (h : Fr K c σ W fs) (f : free? fs i) : Fr K c (σ.set i none) W (fs.set i .un) := by
  obtain ⟨ad, q⟩ := h
  exact ⟨_, q.put (a := 0) (free_np f) trivial fun _ _ z => by cases z⟩
end
def xfN : XF → List Str
  | none => []
  | some fs => fs.map (·.1)
def xfV : XF → List D
  | none => []
  | some fs => fs.map (·.2)
def kGone (i : Nat) (N : Fs → Prop) (fs : Fs) : Prop := free? fs i ∧ N (fs.set i .un)
def kCatch (m : Value → Option Bool) (i : Nat) (ts : AS) (E : XP) (A : AEnds) (cls : Value) (xf : XF) (fs : Fs) : Prop := match m cls with
  | some true => free? fs i ∧ ts X0 { A with nx := kGone i A.nx, bk := kGone i A.bk, ct := kGone i A.ct } (fs.set i (.dat (.exc cls (xfN xf) (xfV xf))))
  | some false => E cls xf fs
  | none => False
def aTry (m : Value → Option Bool) (i : Nat) (tb ts : AS) (E : XP) (A : AEnds) (fs : Fs) : Prop := tb (kCatch m i ts E A) A fs
theorem held {K : PySem.W.Frag} {c : Cn} {σ : L2.St} {W : Wd} {fs : Fs} {a : Addr} {cls : Value} {od : Option Addr} {xf : XF} (F : Fr K c σ W fs) (na : W.H a = none) (xk : XFld K W od xf) :
    ∃ W', W'.H = upd W.H a (xO a cls od) ∧ Le W W' ∧ Fr K c σ W' fs ∧ Rep K W' (.ref a) (.exc cls (xfN xf) (xfV xf)) := by
  have ex : Exs W.H (upd W.H a (xO a cls od)) := Exs.new na
  have F2 := F.grow ex
  have l2 : Le W ⟨upd W.H a (xO a cls od), W.F⟩ := Le.grow ex F.dF
  have h0 := F.new0 na
  have hk := F.newK na
  have hn : ∀ {i : Nat} {b : Bool} {d : D}, fs[i]? = some (.own b d) → σ[i]? ≠ some (some (.ref a)) := fun e => F.newS na e
  obtain ⟨ad, q⟩ := F2
  have F3 : Fr K c σ ⟨upd W.H a (xO a cls od), fun b => W.F b ∨ b = a⟩ fs := ⟨ad, q.freeze (p := a) (by show upd W.H a _ a ≠ none; rw [upd_same]; simp) h0 hk fun i b d e z => hn e (z ▸ (q.own e).1)⟩
  refine ⟨⟨upd W.H a (xO a cls od), fun b => W.F b ∨ b = a⟩, rfl, l2.trans Le.freeze, F3, ?_⟩
  cases xf with
  | none => cases od with
    | none => exact .exc0 (.inr rfl) upd_same
    | some dx => exact xk.elim
  | some fl => cases od with
    | none => exact xk.elim
    | some dx =>
      obtain ⟨vs, f, e, en, r⟩ := xk
      have hne : dx ≠ a := fun z => by rw [z, na] at e; cases e
      show Rep K _ _ (.exc cls (fl.map (·.1)) (fl.map (·.2)))
      rw [← en]
      refine .exc (.inr rfl) upd_same (.inl f) ?_ (r.mono (l2.trans Le.freeze))
      show upd W.H a _ dx = _
      rw [upd_ne hne]; exact e
section
variable {X : Cx} {x n : Str} {c : Value} {body suite : List Stmt} {b₀ : Stmt} {np pos pos' : Pos} {ab as : AS} {Wout : WX}
theorem sx_try (i : Nat) (hN : X.N.Nodup) (hc : Names X x c) (tk : Takes X Wout)
    (hb : ∀ (W : WX) (pn : List (Addr × Obj)) (xe : Value → Shared → Prop), Takes (X.tr pn xe) W → PassesOwn (model X.prog X.w) X.A X.env xe → SXs (X.tr pn xe) (WE W) body ab)
    (hsu : ∀ (a : Addr) (pn : List (Addr × Obj)), SXs (X.suite a pn) (fun _ => E0) (b₀ :: suite) as)
    (hi : X.N[i]? = some n := by rfl) (hln : X.env.kindOf n = some .local := by rfl) (hs : X.stack = X.env :: X.outer := by rfl) (hf : X.env.frame = some X.env.locals := by rfl) (hex : X.ex = [] := by rfl) :
    SX X (WE Wout) (.Try body [.ExceptHandler (some (.Name x np)) (some n) (b₀ :: suite) pos'] [] [] pos) (aTry (fun cls => PySem.W.exmOne X.K cls c) i ab as) :=
  SXt.x ⟨ps_try_hold (tb := fun W => cSndS X.K (WE W) ab) (ts := fun _ _ => cSndS X.K (fun _ => E0) as) hs hf hex hN hi hln hc tk (fun W pn xe t p => (hb W pn xe t p).p) (fun a pn _ _ => (hsu a pn).p), fun cn σ W fs E D A F ad ha k => by
    refine ⟨{ cn with wl := W }, W, fs, _, A, rfl, F.mark, ?_, ha, ?_⟩
    · intro σ1 W1 fs1 cls od xf F1 xk q
      obtain ⟨F1, l1⟩ := F1.unmark F.wl
      have q' : (match PySem.W.exmOne X.K cls c with
        | some true => free? fs1 i ∧ as X0 { A with nx := kGone i A.nx, bk := kGone i A.bk, ct := kGone i A.ct } (fs1.set i (.dat (.exc cls (xfN xf) (xfV xf))))
        | some false => E cls xf fs1
        | none => False) := q
      split at q'
      · rename_i e
        refine ⟨true, e, fun z => Bool.noConfusion z, fun _ a na => ?_⟩
        obtain ⟨W2, e2, l2, F2, r2⟩ := held (cls := cls) F1 na xk
        rw [← e2]
        refine cSndS.s cn _ W2 _ X0 _ _ (F2.setD q'.1 r2) AdX.x0 q'.2 ⟨fun σ' W' fs' l F' q => ?_, fun v r σ' W' fs' l F' ro q => ?_, fun σ' W' fs' l F' q => ?_, fun σ' W' fs' l F' q => ?_⟩
        · exact k.nx _ W' _ ((l1.trans l2).trans l) (F'.setU q.1) q.2
        · exact k.rt v r σ' W' fs' ((l1.trans l2).trans l) F' ro q
        · exact k.bk _ W' _ ((l1.trans l2).trans l) (F'.setU q.1) q.2
        · exact k.ct _ W' _ ((l1.trans l2).trans l) (F'.setU q.1) q.2
      · rename_i e
        exact ⟨false, e, fun _ => ad σ1 W1 fs1 cls od xf F1 xk q', fun z => Bool.noConfusion z⟩
      · exact q'.elim
    · exact ⟨fun σ' W' fs' l F' q => k.nx σ' W' fs' l (F'.unmark F.wl).1 q, fun v r σ' W' fs' l F' ro q => k.rt v r σ' W' fs' l (F'.unmark F.wl).1 (by cases r <;> exact ro) q,
        fun σ' W' fs' l F' q => k.bk σ' W' fs' l (F'.unmark F.wl).1 q, fun σ' W' fs' l F' q => k.ct σ' W' fs' l (F'.unmark F.wl).1 q⟩⟩
end

/-! raise C() -/
def veMro : List Value := [.type "ValueError", .type "Exception", .type "BaseException", .type "object"]
/-- an own exception class without __init__ -/
structure ExC (K : PySem.W.Frag) (mg : Str → Option Value) (x : Str) (C : Addr) : Prop where
  ex : PySem.W.excIn K C veMro "ValueError.__new__" = true
  gC : mg x = some (.ref C)
  kC : PySem.W.keepIn K (.ref C) = true
  sub : PySem.W.subIn K (.ref C) (.type "BaseException") = some true
  ty : PySem.W.typeIn K (.ref C) = some (.type "type")
theorem pmk_own0 {X : Cx} {C : Addr} {x : Str} {p pos : Pos} (T : ExC X.K X.mg x C) (hg : Gl X x) (hdb : (x == ("__debug__" : Str)) = false := by decide) :
    PMk X (.Call (.Name x p) [] [] pos) (fun _ H Q => Q (.ref C) none H) := by
  intro pins s σ H Q I h
  refine wpAny_Call_Name_kw (ld_glob I hg T.gC ?_ hdb)
  refine PySem.W.callWith_K0 I.kIn T.kC ?_
  obtain ⟨bm, N, nm, qn, bs, hdct, sn, sub, ab, col, dd, k0, k1, k2, k3, k5, mN, hC, hN, hni, Tm⟩ := exc_obj I.kIn T.ex
  exact wpAny_call_exc_subT PySem.F.excBase_ValueError Tm hC hN hni (fun h' e hm => mk_of I hm (raises_own T.sub T.ty) h (I.hok.gone hm.new)) (by show 0 ≤ sizeLine; exact Nat.zero_le _)
def aRaise (c : Value) (E : XP) (_ : AEnds) (fs : Fs) : Prop := E c none fs
theorem sx_raise0 {X : Cx} {W : WX} {C : Addr} {x : Str} {p p2 pos : Pos} (T : ExC X.K X.mg x C) (tk : Takes X W) (hc : X.calm = true := by rfl) (hg : Gl X x := by rfl) (hdb : (x == ("__debug__" : Str)) = false := by decide) :
    SX X (WE W) (.Raise (some (.Call (.Name x p) [] [] p2)) none pos) (aRaise (.ref C)) :=
  SXt.x ⟨ps_raise hc tk (pmk_own0 T hg hdb), fun c σ W1 fs E D A F ad h k => ad σ W1 fs _ none none F trivial h⟩

/-! isinstance of exceptions -/
/-- what an exception's class must be, so that it is asked for -/
structure XCl (K : PySem.W.Frag) (C : Addr) : Prop where
  cl : (PySem.W.clsIn K C).isSome = true
  ga : PySem.W.findIn K (.ref C) "__getattribute__" = some (some (.builtin "BaseException.__getattribute__"))
  gg : PySem.W.findIn K (.ref C) "__getattr__" = some none
  sub : PySem.W.subIn K (.ref C) (.type "BaseException") = some true
  ha : PySem.W.findIn K (.ref C) "__class__" = some (some (.builtin "object.__class__"))
  hn : PySem.W.specialIn K (.builtin "object.__class__") "__get__" = some (some (.builtin "getset_descriptor.__get__"))
  ht : PySem.W.takesIn K (.builtin "object.__class__") = some true
  hm : PySem.W.mroIn K C (.type "object") = some true
theorem inst_of {h : Heap} {a C : Addr} {od : Option Addr} {oe : Obj} {vs : Array Value} (e : h.get? a = some oe) (h1 : oe.cls = .ref C) (h2 : oe.dict = od) (h3 : oe.data = .fields vs) (h4 : ∀ dx, od = some dx → ∃ o, h.get? dx = some o) :
    ∃ o2, PySem.W.InstAt h a oe C o2 := by
  obtain ⟨oc, od', oda, osl⟩ := oe
  dsimp only at h1 h2 h3
  subst h1 h2 h3
  cases od' with
  | none => exact ⟨none, e, rfl, rfl, trivial⟩
  | some dx =>
    obtain ⟨o, ho⟩ := h4 dx rfl
    exact ⟨some o, e, rfl, rfl, ho⟩
def rIsX (K : PySem.W.Frag) : List V → Hp → VK → Prop := fun xs H Q => ∃ (a C : Addr) (od : Option Addr) (b : Bool), H a = some (xO a (.ref C) od) ∧ (∀ dx, od = some dx → H dx ≠ none) ∧ XCl K C ∧ Q (.bl b) H ∧
  ((∃ (c : V) (u : Value), xs = [.ref a, c] ∧ ClsV c u ∧ PySem.W.kitOne K (.ref C) u = some b) ∨ ∃ (tp : Addr) (cs : List V) (us : List Value), xs = [.ref a, .ref tp] ∧ SqT K H tp cs ∧ Paired ClsV cs us ∧ PySem.W.kitAny K (.ref C) us = some b)
theorem call_isX {X : Cx} : CallR X (.builtin "isinstance") (rIsX X.K) := by
  intro pins s σ H xs us Q I r h
  obtain ⟨a, C, od, b, ha, hd, T, q, h⟩ := h
  obtain ⟨oe, vs, e, h1, h2, h3⟩ := xO_at I.hok ha
  obtain ⟨o2, J⟩ := inst_of e h1 h2 h3 fun dx ed => by
    cases z : H dx with
    | none => exact absurd z (hd dx ed)
    | some o => exact objOk_get (I.hok dx o z)
  have Z := PySem.W.kitx_exc (K := X.K) (x := a) (C := C) (ox := oe) (od := o2) T.cl T.ga T.gg T.sub T.ha T.hn T.ht T.hm
  rcases h with ⟨c, u, rfl, k, e2⟩ | ⟨tp, cs, ws, rfl, hT, k, e2⟩
  · obtain ⟨u1, u2, rfl, r1, r2⟩ := vals2 r
    cases (show u1 = Value.ref a from r1)
    cases k.eq r2
    exact PySem.W.kia_one Z I.kIn J e2 (fun z => nomatch z) fun tk => ⟨.bl b, H, I.tok tk, rfl, q⟩
  · obtain ⟨u1, u2, rfl, r1, r2⟩ := vals2 r
    cases (show u1 = Value.ref a from r1)
    cases (show u2 = Value.ref tp from r2)
    obtain ⟨its, rv, ⟨o, g1, g2, n, g3⟩, hz⟩ := I.tuple hT
    cases ClsV.all k rv
    obtain ⟨oc, od', dt, sl⟩ := o
    simp only at g2 g3
    subst g2 g3
    exact PySem.W.kia_tup Z I.kIn J g1 e2 (fun z => nomatch z) fun tk => ⟨.bl b, H, I.tok tk, rfl, q⟩
/-- classes, as data -/
def clsU : D → Option Value
  | .oth (.ref C) => some (.ref C)
  | .oth (.ty n) => some (.type n)
  | _ => none
def clsUs : List D → Option (List Value)
  | [] => some []
  | d :: r => match clsU d, clsUs r with
    | some u, some us => some (u :: us)
    | _, _ => none
def arIs (K : PySem.W.Frag) (d e : D) (Q : Zx → Prop) : Prop := match d with
  | .exc (.ref C) _ _ => XCl K C ∧ match clsU e with
    | some u => (match PySem.W.kitOne K (.ref C) u with
      | some b => Q (.dt (.bl b))
      | none => False)
    | none => match e with
      | .tup es => (match clsUs es with
        | some us => (match PySem.W.kitAny K (.ref C) us with
          | some b => Q (.dt (.bl b))
          | none => False)
        | none => False)
      | _ => False
  | _ => False
theorem clsU_view {K : PySem.W.Frag} {W : Wd} {v : V} {d : D} {u : Value} (h : Vw K W v d) (e : clsU d = some u) : ClsV v u := by
  unfold clsU at e
  split at e
  · cases e
    cases h.rep trivial
    exact .own _
  · cases e
    cases h.rep trivial
    exact .ty _
  · cases e
theorem clsUs_view {K : PySem.W.Frag} {W : Wd} : ∀ {vs : List V} {ds : List D} {us : List Value}, Reps K W vs ds → clsUs ds = some us → Paired ClsV vs us
  | _, _, us, .nil, e => by cases e; exact .nil
  | _, _, us, .cons (d := d) (ds := ds) h r, e => by
    unfold clsUs at e
    split at e
    · rename_i u us' e1 e2
      cases e
      exact .cons (clsU_view (.inl h) e1) (clsUs_view r e2)
    · cases e
theorem opn_isX {K : PySem.W.Frag} : Opn K (rIsX K) (ar2 (arIs K)) := opn2 fun W v u d e Q Q' dF hv hu h k => by
  unfold arIs at h
  split at h
  · rename_i C ns xs
    obtain ⟨T, h⟩ := h
    have key : ∃ (a : Addr) (od : Option Addr), v = .ref a ∧ W.H a = some (xO a (.ref C) od) ∧ ∀ dx, od = some dx → W.H dx ≠ none := by
      cases hv.rep trivial with
      | exc0 f g => exact ⟨_, none, rfl, g, fun _ z => by cases z⟩
      | exc f g f2 g2 r => exact ⟨_, _, rfl, g, fun _ z => by cases z; rw [g2]; simp⟩
    obtain ⟨a, od, rfl, g, hd⟩ := key
    split at h
    · rename_i w ew
      split at h
      · rename_i b eb
        exact ⟨a, C, od, b, g, hd, T, k _ _ W.H (Exs.refl _) (zx0 (.bl _)) h, .inl ⟨_, w, rfl, clsU_view hu ew, eb⟩⟩
      · exact h.elim
    · split at h
      · rename_i es
        split at h
        · rename_i ws ew
          split at h
          · rename_i b eb
            obtain ⟨tp, cs, rfl, q, r⟩ := hu.tup
            exact ⟨a, C, od, b, g, hd, T, k _ _ W.H (Exs.refl _) (zx0 (.bl _)) h, .inr ⟨tp, cs, ws, rfl, q, clsUs_view r ew, eb⟩⟩
          · exact h.elim
        · exact h.elim
      · exact h.elim
  · exact h.elim
theorem GlD.cls {K : PySem.W.Frag} {mg : Str → Option Value} {x : Str} {C : Addr} (h : mg x = some (.ref C)) : GlD K mg x (.oth (.ref C)) := ⟨.ref C, _, h, rfl, fun W => .oth _⟩
end G

namespace G
open PySem PySem.Spec PyProof.Rows L2

/-! a < b < c -/
def kCh3 (ar' : AR2) (c : AX) (E : XP) (Q : Rx → Fs → Prop) (y : Vx) (fs2 : Fs) (z : Zx) : Prop := match z with
  | .dt (.bl b) => if b = true then aV c E fs2 (kOp2 ar' Q y) else Q (.dt (.bl false)) fs2
  | _ => False
def kCh2 (ar ar' : AR2) (c : AX) (E : XP) (Q : Rx → Fs → Prop) (x : Vx) (y : Vx) (fs2 : Fs) : Prop := match x.at fs2, y.at fs2 with
  | some d, some e => ar d e (kCh3 ar' c E Q y fs2)
  | _, _ => False
def kCh1 (ar ar' : AR2) (b c : AX) (E : XP) (Q : Rx → Fs → Prop) (x : Vx) (fs1 : Fs) : Prop := aV b E fs1 (kCh2 ar ar' c E Q x)
def aChain (ar ar' : AR2) (a b c : AX) (E : XP) (fs : Fs) (Q : Rx → Fs → Prop) : Prop := aV a E fs (kCh1 ar ar' b c E Q)
theorem SndX.chain {K : PySem.W.Frag} {Ec : L2.St → XK} {ta tb tc : TE} {a b c : AX} {r r' : R2} {ar ar' : AR2} (ha : SndX K Ec ta a) (hb : SndX K Ec tb b) (hc : SndX K Ec tc c) (ho : Op2 K r ar) (ho' : Op2 K r' ar') (nz : ∀ d e (R : Zx → Prop), ar d e R → ∀ R' : Zx → Prop, (∀ z, R z → R' z) → ar d e R') :
    SndX K Ec (tChain r r' ta tb tc) (aChain ar ar' a b c) := fun cn σ W fs E Q Q' F A h k => by
  refine ha.v cn σ W fs E _ _ F A h fun v r1 W1 fs1 l1 F1 k1 q1 => ?_
  refine hb.v cn σ W1 fs1 E _ _ F1 A q1 fun u r2 W2 fs2 l2 F2 k2 q2 => ?_
  have q2' : (match r1.at fs2, r2.at fs2 with
    | some d, some e => ar d e (kCh3 ar' c E Q' r2 fs2)
    | _, _ => False) := q2
  split at q2'
  · rename_i d e e1 e2
    refine ho W2 v u d e _ _ F2.dF (Vw.of F2 (k1.mono l2) e1) (Vw.of F2 k2 e2) q2' fun w z H' ex ok q => ?_
    have l3 : Le W2 ⟨H', W2.F⟩ := Le.grow ex F2.dF
    cases z with
    | fr x => exact q.elim
    | dt x => cases x with
      | bl b =>
        have ok' : Rep K ⟨H', W2.F⟩ w (.bl b) := ok
        cases ok'
        refine ⟨b, rfl, ?_⟩
        have q' : if b = true then aV c E fs2 (kOp2 ar' Q' r2) else Q' (.dt (.bl false)) fs2 := q
        cases b with
        | false =>
          rw [if_neg Bool.false_ne_true]
          rw [if_neg Bool.false_ne_true] at q'
          exact k _ (.dt (.bl false)) ⟨H', W2.F⟩ fs2 ((l1.trans l2).trans l3) (F2.grow ex) (.bl _) q'
        | true =>
          rw [if_pos rfl]
          rw [if_pos rfl] at q'
          refine hc.v cn σ ⟨H', W2.F⟩ fs2 E _ _ (F2.grow ex) A q' fun w3 r3 W3 fs3 l4 F3 k3 q3 => ?_
          have q3' : (match r2.at fs3, r3.at fs3 with
            | some d, some e => ar' d e fun z => Q' z.rx fs3
            | _, _ => False) := q3
          split at q3'
          · rename_i d' e' e3 e4
            refine ho' W3 u w3 d' e' Q _ F3.dF (Vw.of F3 (k2.mono (l3.trans l4)) e3) (Vw.of F3 k3 e4) q3' fun w4 z4 H4 ex4 ok4 q4 => ?_
            exact k w4 z4.rx ⟨H4, W3.F⟩ fs3 ((((l1.trans l2).trans l3).trans l4).trans (Le.grow ex4 F3.dF)) (F3.grow ex4) (F3.zx ex4 ok4) q4
          · exact q3'.elim
      | _ => exact q.elim
  · exact q2'.elim
section
variable {X : Cx} {Ec : L2.St → XK} {e1 e2 e3 : Expr} {a1 a2 a3 : AX} {pos : Pos}
theorem et_chain {op op' : CmpOp} {r r' : R2} {ar ar' : AR2} (ho : OpR X (compareOp op) r) (hs : Op2 X.K r ar) (ho' : OpR X (compareOp op') r') (hs' : Op2 X.K r' ar') (nz : ∀ d e (R : Zx → Prop), ar d e R → ∀ R' : Zx → Prop, (∀ z, R z → R' z) → ar d e R')
    (h1 : EX X Ec e1 a1) (h2 : EX X Ec e2 a2) (h3 : EX X Ec e3 a3) (hm : lastMarks [op, op'] [e2, e3] = false := by with_unfolding_all rfl) :
    ET X Ec (.Compare e1 [op, op'] [e2, e3] pos) (aBl (aChain ar ar' a1 a2 a3)) := ETt.x ⟨pt_chain ho ho' h1.p h2.p h3.p hm, fun c σ W fs E Q Q' F A ha k => by
    refine (h1.s.chain h2.s h3.s hs hs' nz) c σ W fs E _ _ F A ha fun v r W1 fs1 l1 F1 k1 q1 => ?_
    cases r with
    | dt x => cases x with
      | bl b =>
        have k1' : Rep X.K W1 v (.bl b) := k1
        cases k1'
        exact ⟨b, rfl, k b W1 fs1 l1 F1 q1⟩
      | _ => exact q1.elim
    | _ => exact q1.elim⟩
end
theorem nz_I0 {g : Int → Int → D} : ∀ d e (R : Zx → Prop), arI0 g d e R → ∀ R' : Zx → Prop, (∀ z, R z → R' z) → arI0 g d e R' := fun d e R h R' i => by
  unfold arI0 at h ⊢
  split at h
  · exact i _ h
  · exact h.elim

/-! max of a list -/
def intsD : List D → Option (List Int)
  | [] => some []
  | .int i :: r => match intsD r with
    | some ns => some (i :: ns)
    | none => none
  | _ => none
theorem intsD_map : ∀ ns : List Int, intsD (ns.map D.int) = some ns
  | [] => rfl
  | n :: ns => by rw [List.map_cons, intsD, intsD_map ns]
theorem intsD_view {K : PySem.W.Frag} {W : Wd} : ∀ {vs : List V} {ds : List D} {ns : List Int}, Reps K W vs ds → intsD ds = some ns → vs = ns.map V.int
  | _, _, ns, .nil, e => by cases e; rfl
  | _, _, ns, .cons (d := d) (ds := ds) h r, e => by
    cases d with
    | int i =>
      unfold intsD at e
      split at e
      · rename_i ms em
        cases e
        cases h
        rw [intsD_view r em]; rfl
      · cases e
    | _ => simp [intsD] at e
def faMax (d : D) (Q : Zx → Prop) : Prop := match d with
  | .lst ds => match intsD ds with
    | some ns => 0 < ns.length ∧ ∀ m, m ∈ ns → (∀ y, y ∈ ns → y ≤ m) → Q (.dt (.int m))
    | none => False
  | _ => False
theorem opn_max {K : PySem.W.Frag} : Opn K (rMax K) (ar1 faMax) := opn1 fun W v d Q Q' dF hv h k => by
  unfold faMax at h
  split at h
  · rename_i ds
    split at h
    · rename_i ns en
      obtain ⟨a, vs, rfl, q, r⟩ := hv.lst
      refine ⟨a, ns, rfl, ?_, h.1, fun m hm hy => k _ _ W.H (Exs.refl _) (zx0 (.int _)) (h.2 m hm hy)⟩
      rw [← intsD_view r en]
      exact q
    · exact h.elim
  · exact h.elim
theorem kitAny_e {K : PySem.W.Frag} {t c : Value} {r : List Value} : PySem.W.kitAny K t (c :: r) = match PySem.W.kitOne K t c with
    | some true => some true
    | some false => PySem.W.kitAny K t r
    | none => none := rfl
theorem kitAny_n {K : PySem.W.Frag} {t : Value} : PySem.W.kitAny K t [] = some false := rfl
theorem clsU_r {C : Addr} : clsU (.oth (.ref C)) = some (.ref C) := rfl
theorem clsU_t {n : String} : clsU (.oth (.ty n)) = some (.type n) := rfl
theorem clsU_p {ds : List D} : clsU (.tup ds) = none := rfl
theorem clsUs_n : clsUs [] = some [] := rfl
theorem clsUs_c {d : D} {r : List D} : clsUs (d :: r) = match clsU d, clsUs r with
    | some u, some us => some (u :: us)
    | _, _ => none := rfl
/-- a built-in class as a value -/
theorem ex_bty {X : Cx} {Ec : L2.St → XK} {x : Str} {n : String} {pos : Pos} (hm : X.mg x = none) (hv : bootBuiltins x = some (.type n)) (hg : Gl X x := by rfl) (hn : x ≠ "__name__" := by decide) (hd : (x == ("__debug__" : Str)) = false := by decide) :
    EX X Ec (.Name x pos) (aC (.oth (.ty n))) := EXt.x ⟨pe_bltn (v := .ty n) hg hm hv rfl hn hd, snd_c fun _ => .oth _⟩
theorem boot_b_isinstance : bootBuiltins "isinstance" = some (.builtin "isinstance") := by decide +kernel
theorem boot_t_ValueError : bootBuiltins "ValueError" = some (.type "ValueError") := by decide +kernel
/-! seals -/
noncomputable def oTry : (Value → Option Bool) → Nat → AS → AS → AS := Classical.choose (⟨aTry, rfl⟩ : ∃ o, o = aTry)
theorem oTry_s : @aTry = oTry := (Classical.choose_spec (⟨aTry, rfl⟩ : ∃ o, o = aTry)).symm
theorem oTry_e {m : Value → Option Bool} {i : Nat} {tb ts : AS} {E : XP} {A : AEnds} {fs : Fs} : oTry m i tb ts E A fs = tb (kCatch m i ts E A) A fs := by rw [← oTry_s]; rfl
noncomputable def oRaise : Value → AS := Classical.choose (⟨aRaise, rfl⟩ : ∃ o, o = aRaise)
theorem oRaise_s : @aRaise = oRaise := (Classical.choose_spec (⟨aRaise, rfl⟩ : ∃ o, o = aRaise)).symm
theorem oRaise_e {c : Value} {E : XP} {A : AEnds} {fs : Fs} : oRaise c E A fs = E c none fs := by rw [← oRaise_s]; rfl
noncomputable def oChain : AR2 → AR2 → AX → AX → AX → AX := Classical.choose (⟨aChain, rfl⟩ : ∃ o, o = aChain)
theorem oChain_s : @aChain = oChain := (Classical.choose_spec (⟨aChain, rfl⟩ : ∃ o, o = aChain)).symm
theorem oChain_e {ar ar' : AR2} {a b c : AX} {E : XP} {fs : Fs} {Q : Rx → Fs → Prop} : oChain ar ar' a b c E fs Q = oV a E fs (kCh1 ar ar' b c E Q) := by rw [← oChain_s, ← oV_s]; rfl
theorem kCh1_e {ar ar' : AR2} {b c : AX} {E : XP} {Q : Rx → Fs → Prop} {x : Vx} {fs1 : Fs} : kCh1 ar ar' b c E Q x fs1 = oV b E fs1 (kCh2 ar ar' c E Q x) := by rw [← oV_s]; rfl
theorem kCh3_e {ar' : AR2} {c : AX} {E : XP} {Q : Rx → Fs → Prop} {y : Vx} {fs2 : Fs} {b : Bool} : kCh3 ar' c E Q y fs2 (.dt (.bl b)) = if b = true then oV c E fs2 (kOp2 ar' Q y) else Q (.dt (.bl false)) fs2 := by rw [← oV_s]; rfl
theorem kCatch_e {m : Value → Option Bool} {i : Nat} {ts : AS} {E : XP} {A : AEnds} {cls : Value} {xf : XF} {fs : Fs} {b : Bool} (h : m cls = some b) : kCatch m i ts E A cls xf fs = if b = true then free? fs i ∧ ts X0 { A with nx := kGone i A.nx, bk := kGone i A.bk, ct := kGone i A.ct } (fs.set i (.dat (.exc cls (xfN xf) (xfV xf)))) else E cls xf fs := by
  unfold kCatch
  rw [h]
  cases b <;> rfl
end G
namespace G
open PySem PySem.Spec PyProof.Rows L2
theorem takes_none {X : Cx} : Takes X (fun _ _ _ _ => False) := fun _ _ ⟨_, _, _, _, _, _, _, _, _, _, _, _, _, _, _, _, w⟩ => w.elim
theorem sx_try0 {X : Cx} {x n : Str} {c : Value} {body suite : List Stmt} {b₀ : Stmt} {np pos pos' : Pos} {ab as : AS} (i : Nat) (hN : X.N.Nodup) (hc : Names X x c)
    (hb : ∀ (W : WX) (pn : List (Addr × Obj)) (xe : Value → Shared → Prop), Takes (X.tr pn xe) W → PassesOwn (model X.prog X.w) X.A X.env xe → SXs (X.tr pn xe) (WE W) body ab)
    (hsu : ∀ (a : Addr) (pn : List (Addr × Obj)), SXs (X.suite a pn) (fun _ => E0) (b₀ :: suite) as)
    (hi : X.N[i]? = some n := by rfl) (hln : X.env.kindOf n = some .local := by rfl) (hs : X.stack = X.env :: X.outer := by rfl) (hf : X.env.frame = some X.env.locals := by rfl) (hex : X.ex = [] := by rfl) :
    SX X (fun _ => E0) (.Try body [.ExceptHandler (some (.Name x np)) (some n) (b₀ :: suite) pos'] [] [] pos) (aTry (fun cls => PySem.W.exmOne X.K cls c) i ab as) :=
  sx_try i hN hc takes_none hb hsu hi hln hs hf hex
theorem fn_okR {P : Program} {w : World} {K : PySem.W.Frag} {mg : Str → Option Value} {base : Heap} {x qual : Str} {st : Stmt} {f : Addr} {fd : FuncData} {N ps : List Str} {k : Nat} {sp : ASp} (u : Fs) (F : Fun K x qual st f fd) (S : FnScope N ps (defScope st)) (len : ∀ args Q E, sp args Q E → args.length = ps.length)
    (hbody : ∀ (cdv : Value) (A : Around) (outer : List Env) (s : Shared) (H : Hp) (E : XK), Room k (A.deeper (envOfC qual (defScope st) s.heap.objs.size f cdv)) →
      Takes (cxOf (L2.CX P w) P w K mg base N qual (defScope st) f cdv A outer s H E) (fun cls d _ H => E cls d H) → PassesOwn (model P w) (A.deeper (envOfC qual (defScope st) s.heap.objs.size f cdv)) (envOfC qual (defScope st) s.heap.objs.size f cdv) (cxOf (L2.CX P w) P w K mg base N qual (defScope st) f cdv A outer s H E).xe →
      ∃ a, SXs (cxOf (L2.CX P w) P w K mg base N qual (defScope st) f cdv A outer s H E) (WE fun cls d _ H => E cls d H) (defBody st) a ∧
        ∀ args Q E', sp args Q E' → a (fun cls xf fs => E' cls xf (outs args fs)) { nx := fun fs => Q (.dat .non) (outs args fs), rt := fun r fs => Q r (outs args fs) } (args ++ u))
    (hu : List.replicate (N.length - ps.length) Sl.un = u := by rfl) : FnOk P w K mg base (L2.CX P w) (k + 1) f fd ps (spOf K sp) :=
  fn_okX u F S len (fun cdv A outer s H E hr => hbody cdv A outer s H E hr (takes_of rfl rfl rfl rfl) (passes_of rfl)) hu
end G
namespace G
open PySem PySem.Spec PyProof.Rows L2
/-- a def that may raise, called where it doesn't -/
theorem passX0 {X : Cx} (σ : L2.St) : PassesAt (L2.CX X.prog X.w) X σ E0 := fun _ _ _ _ _ _ ⟨_, _, _, _, _, _, _, _, _, _, _, _, h⟩ => h.elim
theorem kCatch_x {K : PySem.W.Frag} {c : Value} {i : Nat} {ts : AS} {E : XP} {A : AEnds} {cls : Value} {xf : XF} {fs : Fs} {b : Bool} (h : PySem.W.exmOne K cls c = some b) : kCatch (fun cls => PySem.W.exmOne K cls c) i ts E A cls xf fs =
    if b = true then free? fs i ∧ ts X0 { A with nx := kGone i A.nx, bk := kGone i A.bk, ct := kGone i A.ct } (fs.set i (.dat (.exc cls (xfN xf) (xfV xf)))) else E cls xf fs := kCatch_e h
end G
namespace G
open PySem PySem.Spec PyProof.Rows L2
theorem kit_r {K : PySem.W.Frag} {C B : Addr} {b : Bool} (hc : (PySem.W.clsIn K B).isSome = true) (ht : PySem.W.typeIn K (.ref B) = some (.type "type")) (hs : PySem.W.subIn K (.ref C) (.ref C) = some true) (h : PySem.W.subIn K (.ref C) (.ref B) = some b) : PySem.W.kitOne K (.ref C) (.ref B) = some b := by
  unfold PySem.W.kitOne
  split
  · rename_i e
    have e2 : (Value.ref C) = .ref B := eq_of_beq e
    rw [← e2, hs] at h
    exact h
  · show (if ((PySem.W.clsIn K B).isSome && PySem.W.typeIn K (.ref B) == some (.type "type")) = true then PySem.W.subIn K (.ref C) (.ref B) else none) = some b
    rw [if_pos (by rw [hc, ht]; rfl)]
    exact h
theorem kit_t {K : PySem.W.Frag} {C : Addr} {n : String} {b : Bool} (hm : PySem.W.kitMeta n = true) (h : PySem.W.subIn K (.ref C) (.type n) = some b) : PySem.W.kitOne K (.ref C) (.type n) = some b := by
  unfold PySem.W.kitOne
  rw [if_neg (by intro e; exact nomatch (eq_of_beq e : Value.ref C = .type n))]
  show (if PySem.W.kitMeta n = true then PySem.W.subIn K (.ref C) (.type n) else none) = some b
  rw [if_pos hm]
  exact h
end G

namespace G
open PySem PySem.Spec PyProof.Rows L2

/-! defs called where an exception is handled -/
structure FnA (P : Program) (w : World) (K : PySem.W.Frag) (mg : Str → Option Value) (base : Heap) (k : Nat) (f : Addr) (fd : FuncData) (ps : List Str) (sp : Sp) : Prop where
  len : ∀ vs H Q E, sp vs H Q E → vs.length = ps.length
  run : ∀ (A : Around) (a : Addr) (outer : List Env) (s : Shared) (H : Hp) (args : Args) (us : List Value) (vs : List V) (Q : VK), A.handled = some (.ref a) → L2H.RoomH k A → Env0 P w K mg base A outer s H → BindsTo s fd args (ps.zip us) → Vals vs us → sp vs H Q E0 →
    codeAny (model P w) A (.call (.ref f) args) (CR CX0 outer P w H s Q E0) s
theorem FnA.mono {P : Program} {w : World} {K : PySem.W.Frag} {mg : Str → Option Value} {base : Heap} {j k : Nat} {f : Addr} {fd : FuncData} {ps : List Str} {sp : Sp} (F : FnA P w K mg base j f fd ps sp) (h : j ≤ k) : FnA P w K mg base k f fd ps sp :=
  ⟨F.len, fun A a outer s H args us vs Q hh hr => F.run A a outer s H args us vs Q hh (hr.mono h)⟩
def calmA (A : Around) : Around := { A with handled := none }
theorem mark_back {A : Around} {e : Env} {a : Addr} (h : A.handled = some (.ref a)) : ((calmA A).deeper e).mark (some (.ref a)) = A.deeper e := by
  obtain ⟨hd, d, f, g, u⟩ := A
  cases h
  rfl
/-- the context of such a def's body -/
abbrev cxA (P : Program) (w : World) (K : PySem.W.Frag) (mg : Str → Option Value) (base : Heap) (N : List Str) (qual : Str) (scope : Scope) (f : Addr) (cd : Value) (A : Around) (outer : List Env) (s : Shared) (H : Hp) (a : Addr) : Cx :=
  (cxOf CX0 P w K mg base N qual scope f cd (calmA A) outer s H E0).suite a []
theorem Fun.okA {P : Program} {w : World} {K : PySem.W.Frag} {mg : Str → Option Value} {base : Heap} {x qual : Str} {st : Stmt} {f : Addr} {fd : FuncData} {N ps : List Str} {k : Nat} {sp : Sp} (F : L2.Fun K x qual st f fd) (S : FnScope N ps (defScope st)) (len : ∀ vs H Q E, sp vs H Q E → vs.length = ps.length)
    (body : ∀ (cdv : Value) (A : Around) (a : Addr) (outer : List Env) (s : Shared) (H : Hp) (vs : List V) (Q : VK), L2H.RoomH k (A.deeper (envOfC qual (defScope st) s.heap.objs.size f cdv)) → sp vs H Q E0 →
      ∃ t, PSs (cxA P w K mg base N qual (defScope st) f cdv A outer s H a) (defBody st) t ∧ t { nx := fun _ H' => Q .non H', rt := Q } (L2.start N vs) H) : FnA P w K mg base (k + 1) f fd ps sp := by
  obtain ⟨oc, od, kV, doc, pm, an, cdv, ct, osl, rfl, lk, hcode⟩ := F.ex
  refine ⟨len, fun A a outer s H args us vs Q hh room env0 binds rels hsp => ?_⟩
  have lens := len _ _ _ _ hsp
  have KIn : K.In s.heap := env0.mod.kin.keeps fun b o e => (env0.bs b o e).1
  have hcell : ∀ y ∈ ps.zip us, (defScope st).names.lookup y.1 = some .local ∨ ((defScope st).names.lookup y.1 = some .cell ∧ ((cellsFrom (s.heap.objs.size + 1) (defScope st).names []).lookup y.1).isSome = true) := fun ⟨m, v⟩ hy =>
    (S.par m (List.of_mem_zip hy).1).imp id fun c => ⟨c, PySem.W.cellsFrom_some _ _ _ (.inl c)⟩
  refine codeAny_call_function room.depth (KIn _ _ lk) rfl S.co S.gen rfl (PySem.W.codeRec_of KIn hcode) (binds _ _ _ _ (wpAny_newFunctionEnv_cells S.kind hcell fun env hee s1 inc => ?_))
  subst hee
  refine ⟨(env0.mod.nolimit.keeps fun b o e => (env0.bs b o e).1).keeps inc.toInCall.keep, codeAny_func ?_⟩
  obtain ⟨t, ht, hq⟩ := body cdv A a outer s H vs Q (room.deeper _) hsp
  have J0 : L2.Inv (cxOf CX0 P w K mg base N qual (defScope st) f cdv (calmA A) outer s H E0) [] (L2.start N vs) H s1 :=
    inv_start (A := calmA A) S rfl ⟨env0.frames, env0.mod, env0.bs, env0.bsz, env0.funs, env0.frf, env0.hok, env0.bare⟩ lens rels inc
  have J : L2.Inv (cxA P w K mg base N qual (defScope st) f cdv A outer s H a) [] (L2.start N vs) H s1 := inv_hot J0 a
  have hrun := ht.run [] s1 (L2.start N vs) H _ J hq
  have hA : (cxA P w K mg base N qual (defScope st) f cdv A outer s H a).A = A.deeper (envOfC qual (defScope st) s.heap.objs.size f cdv) := mark_back hh
  rw [hA] at hrun
  refine wpAny_mono hrun (fun fl s' hs => ?_) fun _ _ z => False.elim z
  have done : ∀ {σ' : L2.St} {H' : Hp} {v : V} {u : Value}, L2.Inv (cxA P w K mg base N qual (defScope st) f cdv A outer s H a) [] σ' H' s' → RelV v u → Q v H' → CE outer P w H s Q u s' :=
    fun J rv q => ⟨_, _, J.os, J.bare, J.base, J.hok, rv, q⟩
  cases fl with
  | next => exact let ⟨_, _, J, q⟩ := hs; done (v := V.non) (u := Value.none) J rfl q
  | ret u => exact let ⟨_, _, _, J, rv, q⟩ := hs; done J rv q
  | cont => exact let ⟨_, _, _, q⟩ := hs; False.elim q
  | brk => exact let ⟨_, _, _, q⟩ := hs; False.elim q
section
variable {X : Cx} {k : Nat} {f : Addr} {fd : FuncData} {ps : List Str} {sp : Sp} {x : Str} {p pos : Pos} {e : Expr} {es : List Expr} {t : TA} {a : Addr}
theorem pe_callA (F : FnA X.prog X.w X.K X.mg X.base k f fd ps sp) (hh : X.A.handled = some (.ref a)) (hr : L2H.RoomH k X.A) (hg : Gl X x) (hm : X.mg x = some (.ref f)) (hk : PySem.W.keepIn X.K (.ref f) = true) (hb : Binds X.K fd ps [])
    (ha : PA X (e :: es) t) (hdb : (x == ("__debug__" : Str)) = false := by decide) (he : starEach (e :: es) X.env = (false, eval e X.env) :: starEach es X.env := by rfl) (hpl : (backTo pos (starEach es X.env)).any (·.1) = false := by rfl) :
    PE X (.Call (.Name x p) (e :: es) [] pos) (tCallS sp (fun _ => E0) t) := by
  refine ⟨fun pins s σ H Q I h => wpAny_Call_Name_kw (ld_glob I hg hm ?_ hdb)⟩
  refine PySem.W.callWith_K (h₀ := X.base) I.ok.mod.kin hk (thn (ha.run pos pins s σ H _ I h) fun us s1 ⟨vs, H1, I1, rels, q⟩ => ⟨I1.kIn, ?_⟩) he hpl
  have lens : us.length = ps.length := by rw [← rels.length]; exact F.len _ _ _ _ q
  have bs := hb s1 us I1.kIn (by rw [List.append_nil]; exact lens)
  rw [List.append_nil] at bs
  refine wpAny_call (codeAny_mono (F.run X.A a X.stack s1 H1 ⟨us, []⟩ us vs Q hh hr I1.env0 bs rels q) fun r s' hq => ?_)
  cases r with
  | ok fl => cases fl with
    | ret u => exact I1.after hq
    | next => exact False.elim hq
    | brk => exact False.elim hq
    | cont => exact False.elim hq
  | error e => exact False.elim hq
end
/-- .. by name, over data -/
structure FnCA (P : Program) (w : World) (K : PySem.W.Frag) (mg : Str → Option Value) (base : Heap) (k : Nat) (x : Str) (sp : ASp) : Prop where
  ex : ∃ f fd ps, FnA P w K mg base k f fd ps (spOf K sp) ∧ mg x = some (.ref f) ∧ PySem.W.keepIn K (.ref f) = true ∧ Binds K fd ps []
theorem FnCA.mono {P : Program} {w : World} {K : PySem.W.Frag} {mg : Str → Option Value} {base : Heap} {j k : Nat} {x : Str} {sp : ASp} (h : FnCA P w K mg base j x sp) (l : j ≤ k) : FnCA P w K mg base k x sp :=
  let ⟨f, fd, ps, h1, h2⟩ := h.ex; ⟨f, fd, ps, h1.mono l, h2⟩
theorem ex_callA {X : Cx} {k : Nat} {x : Str} {sp : ASp} {e : Expr} {es : List Expr} {as : List AX} {p pos : Pos} {a : Addr} (hf : FnCA X.prog X.w X.K X.mg X.base k x sp) (hr : L2H.RoomH k X.A) (hh : X.A.handled = some (.ref a)) (ha : EVs X (fun _ => E0) (e :: es) (aVs as)) (hg : Gl X x := by rfl) (hdb : (x == ("__debug__" : Str)) = false := by decide)
    (he : starEach (e :: es) X.env = (false, eval e X.env) :: starEach es X.env := by rfl) (hpl : (backTo pos (starEach es X.env)).any (·.1) = false := by rfl) : EX X (fun _ => E0) (.Call (.Name x p) (e :: es) [] pos) (aCall sp (aVs as)) := by
  obtain ⟨f, fd, ps, h1, h2, h3, h4⟩ := hf.ex
  exact EXt.x ⟨pe_callA h1 hh hr hg h2 h3 h4 ha.p hdb he hpl, snd_call (Ec := fun _ => E0) ha.s⟩
theorem fnca_of {P : Program} {w : World} {K : PySem.W.Frag} {mg : Str → Option Value} {base : Heap} {k : Nat} {x : Str} {st : Stmt} {ps : List Str} {sp : ASp} (h : FnF K mg x st)
    (hb : ∀ (kV doc pm : Value) (an : Option Addr) (cdv ct : Value) (us : List Value), us.length = ps.length → bindArgs (PySem.W.fnOf x x (defArgs st) (defBody st) (defScope st) .none kV doc pm an cdv ct) ⟨us, []⟩ = pure (ps.zip us))
    (ok : ∀ f fd, L2.Fun K x x st f fd → FnA P w K mg base k f fd ps (spOf K sp)) : FnCA P w K mg base k x sp := by
  obtain ⟨f, fd, F, hm⟩ := h.ex
  exact ⟨f, fd, ps, ok f fd F, hm, F.kp, F.binds hb⟩
theorem fn_okA {P : Program} {w : World} {K : PySem.W.Frag} {mg : Str → Option Value} {base : Heap} {x qual : Str} {st : Stmt} {f : Addr} {fd : FuncData} {N ps : List Str} {k : Nat} {sp : ASp} (u : Fs) (F : L2.Fun K x qual st f fd) (S : FnScope N ps (defScope st)) (len : ∀ args Q E, sp args Q E → args.length = ps.length)
    (hbody : ∀ (cdv : Value) (A : Around) (a : Addr) (outer : List Env) (s : Shared) (H : Hp), L2H.RoomH k (A.deeper (envOfC qual (defScope st) s.heap.objs.size f cdv)) →
      ∃ r, SXs (cxA P w K mg base N qual (defScope st) f cdv A outer s H a) (fun _ => E0) (defBody st) r ∧
        ∀ args Q E', sp args Q E' → r X0 { nx := fun fs => Q (.dat .non) (outs args fs), rt := fun r fs => Q r (outs args fs) } (args ++ u))
    (hu : List.replicate (N.length - ps.length) Sl.un = u := by rfl) : FnA P w K mg base (k + 1) f fd ps (spOf K sp) := by
  have hpl : ps.length ≤ N.length := by have := congrArg List.length S.pre; rw [List.length_take] at this; omega
  have hlen : ∀ vs H Q E, spOf K sp vs H Q E → vs.length = ps.length := fun vs H Q E ⟨F, args, pa, Q', E', h1, h2, _⟩ => by rw [h1.len, len args Q' E' h2]
  refine Fun.okA F S hlen fun cdv A a outer s H vs Q hr hsp => ?_
  obtain ⟨Fz, args, pa, Q', E', h1, h2, h3, h4⟩ := hsp
  obtain ⟨r, hS, ha⟩ := hbody cdv A a outer s H hr
  have hal := len args Q' E' h2
  refine ⟨_, hS.p, ?_⟩
  have F0 := fr_start (N := N) h1 (by rw [hal]; exact hpl)
  rw [hal, hu] at F0
  refine hS.s _ _ _ _ X0 _ _ F0 AdX.x0 (ha args Q' E' h2) ⟨fun σ' W' fs' l F' q => ?_, fun v r σ' W' fs' l F' ro q => ?_, fun _ _ _ _ _ q => q.elim, fun _ _ _ _ _ q => q.elim⟩
  · exact h3 .non (.dat .non) _ W' (after_of h1 F') .non q
  · refine h3 v r _ W' (after_of h1 F') ?_ q
    cases r with
    | dat d => exact ro
    | un => exact ro.elim
    | tp ds e =>
      obtain ⟨p, us, q, e1, e2, e3, e4, e5, e6, _⟩ := ro
      exact ⟨p, us, q, e1, e2, e3, e4, e5, e6⟩
    | own p d => cases p with
      | true => exact ro.elim
      | false =>
        obtain ⟨p, e, n, nf, ct, _⟩ := ro
        exact ⟨p, e, n, nf, ct⟩
end G

namespace G
open PySem PySem.Spec PyProof.Rows L2
theorem _root_.L2H.RoomH.units {k : Nat} {A : Around} (r : L2H.RoomH k A) : A.units + 64 < cLine := by have := r.un; omega
theorem huA {k : Nat} {A : Around} (r : L2H.RoomH k A) : A.units + 1 < cLine := Nat.lt_of_le_of_lt (Nat.add_le_add_left (by decide : 1 ≤ 64) _) r.units

/-! fields of exceptions that were caught -/
def tXfld (K : PySem.W.Frag) (f : Str) (te : TE) : TE := fun σ H Q => te σ H fun x H1 => ∃ (a C dx : Addr) (fs : List (Str × V)) (v : V), x = .ref a ∧ H1 a = some (xO a (.ref C) (some dx)) ∧ XfC K C ∧ PySem.W.findIn K (.ref C) f = some none ∧ H1 dx = some (.xd fs) ∧ fs.lookup f = some v ∧ Q v H1
theorem pe_xfld {X : Cx} {e : Expr} {te : TE} {pos : Pos} {n : Str} (he : PE X e te) (hb : attributeBase e n X.env (eval e X.env) = eval e X.env := by rfl) : PE X (.Attribute e n pos) (tXfld X.K n te) := by
  refine ⟨fun pins s σ H Q I h => ?_⟩
  refine attr_of hb (thn (he.run pins s σ H _ I h) fun u s1 ⟨x, H1, I1, rx, a, C, dx, fs, v, ex, ea, T, hno, ed, l, q⟩ => ?_)
  subst ex
  obtain rfl : u = Value.ref a := rx
  obtain ⟨oe, vs, eo, h1, h2, h3⟩ := xO_at I1.hok ea
  have hx : ObjOk X.prog X.w H1 s1.heap dx (.xd fs) := I1.hok dx _ ed
  obtain ⟨mA, hns, hr⟩ := hx
  obtain ⟨od, ho, hl⟩ := lookIn_ns hns
  obtain ⟨w, hw, rw'⟩ := RelO.some_of (v := v) (o := mA n) (by rw [← l]; exact hr n)
  obtain ⟨oc, od', oda, osl⟩ := oe
  dsimp only at h1 h2 h3
  subst h1 h2 h3
  have J : PySem.W.InstAt s1.heap a _ C (some od) := ⟨eo, rfl, rfl, ho⟩
  exact HandSPX.exc_get I1.kIn J T.ga T.gg T.exC (PySem.W.findObj_own T.hdC hno rfl (by rw [hl, hw])) (handed_of rw') ⟨v, H1, I1.tok _, rw', q⟩
def kXf (K : PySem.W.Frag) (f : Str) (Q : Rx → Fs → Prop) (x : Vx) (fs1 : Fs) : Prop := match x.at fs1 with
  | some (.exc (.ref C) ns ds) => XfC K C ∧ PySem.W.findIn K (.ref C) f = some none ∧ match lookN f ns ds with
    | some d => Q (.dt d) fs1
    | none => False
  | _ => False
def aXf (K : PySem.W.Frag) (f : Str) (a : AX) (E : XP) (fs : Fs) (Q : Rx → Fs → Prop) : Prop := aV a E fs (kXf K f Q)
theorem ex_xf {X : Cx} {Ec : L2.St → XK} {e : Expr} {a : AX} {pos : Pos} {n : Str} {K : PySem.W.Frag} (h : EX X Ec e a) (hK : X.K = K := by rfl) (hb : attributeBase e n X.env (eval e X.env) = eval e X.env := by rfl) : EX X Ec (.Attribute e n pos) (aXf K n a) := hK ▸ EXt.x ⟨pe_xfld h.p hb, fun c σ W fs E Q Q' F A ha k => by
  refine h.s.v c σ W fs E _ _ F A ha fun v r W1 fs1 l1 F1 k1 q1 => ?_
  have q1' : (match r.at fs1 with
    | some (.exc (.ref C) ns ds) => XfC X.K C ∧ PySem.W.findIn X.K (.ref C) n = some none ∧ match lookN n ns ds with
      | some d => Q' (.dt d) fs1
      | none => False
    | _ => False) := q1
  split at q1'
  · rename_i C ns ds ed
    obtain ⟨T, hno, q2⟩ := q1'
    split at q2
    · rename_i d el
      have rp := (Vw.of F1 k1 ed).rep trivial
      cases rp with
      | exc0 f g => cases el
      | @exc p dx c gs ds' f g f2 g2 rr =>
        obtain ⟨w, hl, hrep⟩ := lookN_view rr el
        exact ⟨p, C, dx, gs, w, rfl, g, T, hno, g2, hl, k w (.dt d) W1 fs1 l1 F1 hrep q2⟩
    · exact q2.elim
  · exact q1'.elim⟩
noncomputable def oXf : PySem.W.Frag → Str → AX → AX := Classical.choose (⟨aXf, rfl⟩ : ∃ o, o = aXf)
theorem oXf_s : @aXf = oXf := (Classical.choose_spec (⟨aXf, rfl⟩ : ∃ o, o = aXf)).symm
theorem oXf_e {K : PySem.W.Frag} {f : Str} {a : AX} {E : XP} {fs : Fs} {Q : Rx → Fs → Prop} : oXf K f a E fs Q = oV a E fs (kXf K f Q) := by rw [← oXf_s, ← oV_s]; rfl

/-! xs.count(y), xs.index(y) -/
def rCountF (K : PySem.W.Frag) : V → List V → Hp → VK → Prop := fun x xs H Q => ∃ (a : Addr) (ys : List V) (y : V), x = .ref a ∧ xs = [y] ∧ SqL K H a ys ∧ flatV y = true ∧ ys.all flatV = true ∧ Q (.int (ys.countP fun z => eqV z y : Nat)) H
theorem countP_eqU {y : V} : ∀ {xs : List V} {us : List Value}, Vals xs us → xs.all flatV = true → us.countP (eqU y) = xs.countP fun z => eqV z y
  | _, _, .nil, _ => rfl
  | z :: xs, u :: us, .cons r t, f => by
    rw [List.all_cons, Bool.and_eq_true] at f
    rw [List.countP_cons, List.countP_cons, countP_eqU t f.2, eqU_of r f.1]
theorem mt_countF {X : Cx} : MtR X "list.count" (rCountF X.K) := by
  intro pins s σ H x xs v us Q I rx rxs h
  obtain ⟨a, ys, y, rfl, rfl, hs, fy, fys, q⟩ := h
  cases rx
  obtain ⟨uy, rfl, ry⟩ := rxs.one
  obtain ⟨its, rv, ⟨⟨cls, dd, data, sl⟩, n, ho, hc, hdn, hd⟩, hlen⟩ := I.list hs
  simp only at hc hd
  subst hc hd
  refine call_meets PySem.F.slot_list_count ⟨_, ho, rfl⟩ PySem.F.entry_list_count (PySem.F.args_list_count_2 _ _)
    (SeqAt.list_countAt a its.toArray n dd sl uy (eqU y)) ⟨ho, fun u' hu' => mem_eqAt ry fy rv fys u' (by simpa using hu'), ?_⟩
  refine ⟨.int (ys.countP fun z => eqV z y : Nat), H, I.tok _, ⟨s.toks, ?_⟩, q⟩
  show Value.int ((its.toArray.toList.countP (eqU y) : Nat) : Int) s.toks = Value.int ((ys.countP fun z => eqV z y : Nat) : Int) s.toks
  rw [← countP_eqU rv fys]
def cntD (d : D) (ds : List D) : Nat := (ds.map toV).countP fun z => eqV z (toV d)
def arCnt (x d : D) (Q : Zx → Prop) : Prop := match x with
  | .lst ds => flatD d = true ∧ ds.all flatD = true ∧ Q (.dt (.int (cntD d ds)))
  | _ => False
def firstD (d : D) (ds : List D) : Option Nat := (ds.map toV).findIdx? fun z => eqV z (toV d)
def arIdx (x d : D) (Q : Zx → Prop) : Prop := match x with
  | .lst ds => flatD d = true ∧ ds.all flatD = true ∧ match firstD d ds with
    | some j => Q (.dt (.int j))
    | none => False
  | _ => False
/-- a method of lists that writes nothing -/
def MtL (K : PySem.W.Frag) (r : V → List V → Hp → VK → Prop) (ar : AR2) : Prop := ∀ (W : Wd) (x y : V) (d e : D) (Q : VK) (Q' : Zx → Prop), (∀ b, W.F b → W.H b ≠ none) → Vw K W x d → Vw K W y e → ar d e Q' →
  (∀ v z H', Exs W.H H' → ZxOk K W ⟨H', W.F⟩ v z → Q' z → Q v H') → r x [y] W.H Q
theorem flat_vw {K : PySem.W.Frag} {W : Wd} {x : V} {d : D} (h : Vw K W x d) (f : flatD d = true) : x = toV d ∧ flatV x = true := flat_view h f
theorem mtl_count {K : PySem.W.Frag} : MtL K (rCountF K) arCnt := fun W x y d e Q Q' dF hx hy h k => by
  unfold arCnt at h
  split at h
  · rename_i ds
    obtain ⟨f1, f2, h⟩ := h
    obtain ⟨a, vs, rfl, hq, r⟩ := hx.lst
    obtain ⟨ey, fy⟩ := flat_vw hy f1
    obtain ⟨ev, fv⟩ := flats_view r f2
    refine ⟨a, vs, y, rfl, rfl, hq, fy, fv, ?_⟩
    rw [ey, ev]
    exact k _ _ W.H (Exs.refl _) (zx0 (.int _)) h
  · exact h.elim
theorem mtl_index {K : PySem.W.Frag} : MtL K (rIndex K) arIdx := fun W x y d e Q Q' dF hx hy h k => by
  unfold arIdx at h
  split at h
  · rename_i ds
    obtain ⟨f1, f2, h⟩ := h
    split at h
    · rename_i j ej
      obtain ⟨a, vs, rfl, hq, r⟩ := hx.lst
      obtain ⟨ey, fy⟩ := flat_vw hy f1
      obtain ⟨ev, fv⟩ := flats_view r f2
      unfold firstD at ej
      rw [List.findIdx?_eq_some_iff_getElem] at ej
      obtain ⟨hj, hz, hno⟩ := ej
      rw [← ev] at hj
      refine ⟨a, vs, y, j, vs[j], rfl, rfl, hq, fy, fv, List.getElem?_eq_getElem hj, ?_, fun m z' hm hz' => ?_, k _ _ W.H (Exs.refl _) (zx0 (.int _)) h⟩
      · rw [ey]; simp only [ev]; exact hz
      · have hml : m < (ds.map toV).length := by rw [← ev]; omega
        have e2 : z' = (ds.map toV)[m] := by
          rw [List.getElem?_eq_getElem (by omega)] at hz'
          rw [← Option.some.inj hz']
          simp only [ev]
        rw [ey, e2]
        simpa using hno m hm
    · exact h.elim
  · exact h.elim
def kLm2 (ar : AR2) (Q : Rx → Fs → Prop) (x : Vx) (rs : List Vx) (fs2 : Fs) : Prop := match x.at fs2, Vx.ats fs2 rs with
  | some d, some [e] => ar d e (kZ Q fs2)
  | _, _ => False
def kLm1 (ar : AR2) (b : AVs) (E : XP) (Q : Rx → Fs → Prop) (x : Vx) (fs1 : Fs) : Prop := match x.at fs1 with
  | some (.lst _) => b E fs1 (kLm2 ar Q x)
  | _ => False
def aLm (ar : AR2) (a : AX) (b : AVs) (E : XP) (fs : Fs) (Q : Rx → Fs → Prop) : Prop := aV a E fs (kLm1 ar b E Q)
theorem snd_lm {K : PySem.W.Frag} {Ec : L2.St → XK} {to : TE} {t : TA} {a : AX} {b : AVs} {r : V → List V → Hp → VK → Prop} {ar : AR2} (ha : SndX K Ec to a) (hb : SndVs K Ec t b) (hs : MtL K r ar) : SndX K Ec (tBM K "list" r to t) (aLm ar a b) := fun c σ W fs E Q Q' F A h k => by
  refine ha.v c σ W fs E _ _ F A h fun v r1 W1 fs1 l1 F1 k1 q1 => ?_
  have q1' : (match r1.at fs1 with
    | some (.lst _) => b E fs1 (kLm2 ar Q' r1)
    | _ => False) := q1
  split at q1'
  · rename_i ds ed
    obtain ⟨p, vs, rfl, hq, rr⟩ := (Vw.of F1 k1 ed).lst
    refine ⟨.inl ⟨rfl, vs, hq⟩, hb c σ W1 fs1 E _ _ F1 A q1' fun us rs W2 fs2 l2 F2 k2 q2 => ?_⟩
    have q2' : (match r1.at fs2, Vx.ats fs2 rs with
      | some d, some [e] => ar d e fun z => Q' z.rx fs2
      | _, _ => False) := q2
    split at q2'
    · rename_i d e e1 e2
      have vv := Vws.of F2 k2 e2
      cases us with
      | nil => exact vv.elim
      | cons u us => cases us with
        | cons _ _ => exact vv.2.elim
        | nil =>
          refine hs W2 _ u d e Q _ F2.dF (Vw.of F2 (k1.mono l2) e1) vv.1 q2' fun w z H' ex ok q => ?_
          exact k w z.rx ⟨H', W2.F⟩ fs2 ((l1.trans l2).trans (Le.grow ex F2.dF)) (F2.grow ex) (F2.zx ex ok) q
    · exact q2'.elim
  · exact q1'.elim
theorem ex_lm {X : Cx} {Ec : L2.St → XK} {o e : Expr} {a : AX} {as : List AX} {name : Str} {id : String} {r : V → List V → Hp → VK → Prop} {ar : AR2} {apos cpos : Pos} (pa : PlainAttrs "list") (slot : Slot "list" name id) (hty : typeOf (.builtin id) = pure (.type "method_descriptor")) (hm : MtR X id r) (hs : MtL X.K r ar)
    (ho : EX X Ec o a) (he : EVs X Ec [e] (aVs as)) (hb : attributeBase o name X.env (eval o X.env) = eval o X.env := by rfl)
    (hfew : ((backTo cpos (starEach [e] X.env)).all (fun x => !x.1) && (backToKw cpos (keywordEach [] X.env)).all (fun x => x.1.isSome)
      && decide ([e].length + ([] : List Keyword).length + (if ([] : List Keyword).isEmpty then 0 else 1) < 30)) = true := by rfl)
    (hline : (apos.endLine == cpos.line) = true := by rfl)
    (hst : starEach [e] X.env = (false, eval e X.env) :: starEach [] X.env := by rfl) (hpl : (backTo cpos (starEach [] X.env)).any (·.1) = false := by rfl) : EX X Ec (.Call (.Attribute o name apos) [e] [] cpos) (aLm ar a (aVs as)) :=
  EXt.x ⟨pe_bm pa slot hty hm ho.p he.p hb hfew hline hst hpl, snd_lm ho.s he.s hs⟩
noncomputable def oLm : AR2 → AX → AVs → AX := Classical.choose (⟨aLm, rfl⟩ : ∃ o, o = aLm)
theorem oLm_s : @aLm = oLm := (Classical.choose_spec (⟨aLm, rfl⟩ : ∃ o, o = aLm)).symm
theorem oLm_e {ar : AR2} {a : AX} {b : AVs} {E : XP} {fs : Fs} {Q : Rx → Fs → Prop} : oLm ar a b E fs Q = oV a E fs (kLm1 ar b E Q) := by rw [← oLm_s, ← oV_s]; rfl

/-! x in a list of nested data -/
def arInD (neg : Bool) (d e : D) (Q : Zx → Prop) : Prop := match e with
  | .lst ds => SeqAt.shaped (py d) = true ∧ SeqAt.shaped (py (.lst ds)) = true ∧ Q (.dt (.bl (if neg then !(ds.any fun z => eqD z d) else ds.any fun z => eqD z d)))
  | _ => False
theorem pys_any {d : PyData} : ∀ ds : List D, (pys ds).any (fun z => PyData.eqv z d) = ds.any fun z => PyData.eqv (py z) d
  | [] => rfl
  | x :: xs => by rw [pys, List.any_cons, List.any_cons, pys_any xs]
theorem op2_inD {K : PySem.W.Frag} : Op2 K (rInD K) (arInD false) := fun W x y d e Q Q' dF hx hy h k => by
  unfold arInD at h
  split at h
  · rename_i ds
    obtain ⟨s1, s2, h⟩ := h
    refine ⟨py d, pys ds, vw_dp hx s1, vw_dp hy s2, s1, s2, ?_⟩
    rw [pys_any]
    exact k _ _ W.H (Exs.refl _) (zx0 (.bl _)) h
  · exact h.elim
theorem op2_notInD {K : PySem.W.Frag} : Op2 K (rNotInD K) (arInD true) := fun W x y d e Q Q' dF hx hy h k => by
  unfold arInD at h
  split at h
  · rename_i ds
    obtain ⟨s1, s2, h⟩ := h
    refine ⟨py d, pys ds, vw_dp hx s1, vw_dp hy s2, s1, s2, ?_⟩
    rw [pys_any]
    exact k _ _ W.H (Exs.refl _) (zx0 (.bl _)) h
  · exact h.elim
theorem hu65 {k : Nat} {A : Around} (r : Room k A) : A.units + 65 < cLine := by have := r.un; omega

/-! exceptions with a place, or with a place and a stage -/
theorem pe_ginit {X : Cx} {x : Str} {B : Addr} {e : Expr} {es : List Expr} {ta : TA} {p1 p2 pos : Pos} {pl : Sem Bool} (r : ClX.CRead X.K B (.type "type")) (hG : X.mg x = some (.ref B)) (vV : PySem.W.findCls X.K (.ref B) (.type "type") "__init__" = some (.val (.builtin "ValueError.__init__"))) (ha : PA X (e :: es) ta)
    (hg : Gl X x := by rfl) (hdb : (x == ("__debug__" : Str)) = false := by decide)
    (hc : eval (.Call (.Attribute (.Name x p1) "__init__" p2) (e :: es) [] pos) X.env = (do
      let ov ← eval (.Name x p1) X.env
      standAt p2.atName
      let (f, first) ← holding [ov] (getMethod ov "__init__" pl)
      callWith pos f first (backTo pos (starEach (e :: es) X.env)) (backToKw pos (keywordEach [] X.env))) := by rfl)
    (he : starEach (e :: es) X.env = (false, eval e X.env) :: starEach es X.env := by rfl) (hpl : (backTo pos (starEach es X.env)).any (·.1) = false := by rfl) :
    PE X (.Call (.Attribute (.Name x p1) "__init__" p2) (e :: es) [] pos) (tVeI X.K ta) := by
  refine ⟨fun pins s σ H Q I h => PySem.W.methodCall_KW (ld_glob I hg hG ?_ hdb) hc⟩
  refine PySem.W.method_cls I.kIn r.ga (PySem.W.cls_value I.kIn r.rd vV (by decide +kernel) ?_)
  refine PyProof.Rows.callWith_method1 (thn (ha.run pos pins _ σ H _ (I.tok _) h) fun us s1 ⟨vs, H1, I1, rs, a, C, ws, ev, hl, T, ea, q⟩ => ?_) he hpl
  subst ev
  cases rs with
  | @cons _ u0 _ ur ra rest =>
    obtain rfl : u0 = Value.ref a := ra
    refine oinit_ok T I1 ea ?_ fun s' J => ⟨.non, H1, J, rfl, q⟩
    rw [← Paired.length rest, sizeLine_eq]
    omega
/-- __init__(self, place, stage) -/
def spI2 (K : PySem.W.Frag) : Sp := fun vs H Q _ => ∃ (a C : Addr) (v1 v2 : V), vs = [.ref a, v1, v2] ∧ OexC K C ∧ PySem.W.findIn K (.ref C) "place" = some none ∧ PySem.W.findIn K (.ref C) "stage" = some none ∧ H a = some (exo a C none) ∧
  ∀ dx, H dx = none → dx ≠ a → Q .non (upd (upd (upd H dx (exd dx [("place", v1)])) a (exo a C (some dx))) dx (exd dx [("stage", v2), ("place", v1)]))
/-- what is read of __init__'s body -/
def tI2 (K : PySem.W.Frag) (m : Str) : TS := fun D σ H => tVeI K (tCons (tVar 0) (tCons (tC (.str m)) tNil)) σ H fun _ H1 => tOst K "place" (tVar 0) (tVar 1) { D with nx := fun σ2 H2 => tOst K "stage" (tVar 0) (tVar 2) D σ2 H2 } σ H1
theorem tI2_ok {K : PySem.W.Frag} {m : Str} {vs : List V} {H : Hp} {Q : VK} {D : Ends} {N : List Str} (hN : N = (["self", "place", "stage"] : List Str)) (hQ : ∀ σ H', Q .non H' → D.nx σ H') (h : spI2 K vs H Q E0) : tI2 K m D (L2.start N vs) H := by
  subst hN
  obtain ⟨a, C, v1, v2, rfl, ox, f1, f2, ha, q⟩ := h
  refine ⟨.ref a, rfl, a, C, [.str m], rfl, by simp, ox, ha, ?_⟩
  refine ⟨v1, rfl, .ref a, rfl, a, C, rfl, ox, f1, .inl ⟨ha, fun dx hd hne => ?_⟩⟩
  refine ⟨v2, rfl, .ref a, rfl, a, C, rfl, ox, f2, .inr ⟨dx, [("place", v1)], upd_same, ?_, by simp, hQ _ _ (q dx hd hne)⟩⟩
  rw [upd_ne hne, upd_same]
/-- a new thing, frozen -/
theorem laidF {K : PySem.W.Frag} {c : Cn} {σ : L2.St} {W : Wd} {fs : Fs} {p : Addr} (F : Fr K c σ W fs) (np : W.H p = none) (o : HO) : ∃ W', W'.H = upd W.H p o ∧ Le W W' ∧ Fr K c σ W' fs ∧ W'.F p := by
  have ex : Exs W.H (upd W.H p o) := Exs.new np
  have F2 := F.grow ex
  have h0 := F.new0 np
  have hk := F.newK np
  have hn : ∀ {i : Nat} {b : Bool} {d : D}, fs[i]? = some (.own b d) → σ[i]? ≠ some (some (.ref p)) := fun e => F.newS np e
  obtain ⟨ad, q⟩ := F2
  exact ⟨⟨upd W.H p o, fun b => W.F b ∨ b = p⟩, rfl, (Le.grow ex F.dF).trans Le.freeze, ⟨ad, q.freeze (p := p) (by show upd W.H p _ p ≠ none; rw [upd_same]; simp) h0 hk fun i b d e z => hn e (z ▸ (q.own e).1)⟩, .inr rfl⟩
def kRz2 (C : Addr) (E : XP) (ds : List D) (fs1 : Fs) : Prop := match ds with
  | [d1, d2] => E (.ref C) (some [("stage", d2), ("place", d1)]) fs1
  | _ => False
def aRaise2 (C : Addr) (a : AL) (E : XP) (_ : AEnds) (fs : Fs) : Prop := a E fs (kRz2 C E)
theorem heap_xd {H : Hp} {a dx C : Addr} {v1 v2 : V} (na : H a = none) (hne : dx ≠ a) :
    upd (L2.del (upd (upd (upd (upd H a (exo a C none)) dx (exd dx [("place", v1)])) a (exo a C (some dx))) dx (exd dx [("stage", v2), ("place", v1)])) a) dx (.xd [("stage", v2), ("place", v1)]) = upd H dx (.xd [("stage", v2), ("place", v1)]) := by
  funext b
  by_cases hb : b = dx
  · rw [hb, upd_same, upd_same]
  · rw [upd_ne hb, upd_ne hb]
    by_cases hc : b = a
    · rw [hc, del_same, na]
    · rw [del_ne hc, upd_ne hb, upd_ne hc, upd_ne hb, upd_ne hc]
theorem sx_raise2 {X : Cx} {W : WX} {C fI : Addr} {x : Str} {k : Nat} {fd : FuncData} {e : Expr} {es : List Expr} {al : AL} {p p2 pos : Pos} (ox : OexC X.K C) (f1 : PySem.W.findIn X.K (.ref C) "place" = some none) (f2 : PySem.W.findIn X.K (.ref C) "stage" = some none)
    (iC : PySem.W.findIn X.K (.ref C) "__init__" = some (some (.ref fI))) (tI : PySem.W.typeIn X.K (.ref fI) = some (.type "function")) (F1 : FnOk X.prog X.w X.K X.mg X.base CX0 k fI fd ["self", "place", "stage"] (spI2 X.K)) (hr : Room (k + 1) X.A) (hb : Binds X.K fd ["self", "place", "stage"] [])
    (hm : X.mg x = some (.ref C)) (tk : Takes X W) (ha : EL X (WE W) (e :: es) al) (hc : X.calm = true := by rfl) (hg : Gl X x := by rfl) (hdb : (x == ("__debug__" : Str)) = false := by decide)
    (he : starEach (e :: es) X.env = (false, eval e X.env) :: starEach es X.env := by rfl) (hpl : (backTo p2 (starEach es X.env)).any (·.1) = false := by rfl) :
    SX X (WE W) (.Raise (some (.Call (.Name x p) (e :: es) [] p2)) none pos) (aRaise2 C al) :=
  SXt.x ⟨ps_raise hc tk (pmk_oex (CX := CX0) ox iC tI F1 hr hb .nil passE hg hm ha.p hdb he hpl), fun cn σ W1 fs E D A F ad h k => by
    refine ha.s cn σ W1 fs E _ _ F ad h fun vs ds W2 fs2 l2 F2 r2 q2 => ?_
    unfold kRz2 at q2
    split at q2
    · rename_i d1 d2
      cases r2 with
      | cons r1 r2 => cases r2 with
        | cons r2 r3 =>
          cases r3
          rename_i v1 v2
          refine ⟨by simp, fun a na => ⟨a, C, v1, v2, rfl, ox, f1, f2, upd_same, fun dx hd hne => ⟨rfl, dx, [("stage", v2), ("place", v1)], ?_, upd_same, ?_, ?_⟩⟩⟩
          · rw [upd_ne (Ne.symm hne), upd_same]
          · rw [upd_ne hne] at hd; exact hd
          · rw [heap_xd na hne]
            rw [upd_ne hne] at hd
            obtain ⟨W3, e3, l3, F3, f3⟩ := laidF F2 hd (.xd [("stage", v2), ("place", v1)])
            rw [← e3]
            refine ad σ W3 fs2 (.ref C) (some dx) (some [("stage", d2), ("place", d1)]) F3 ⟨[("stage", v2), ("place", v1)], f3, by rw [e3, upd_same], rfl, .cons (r2.mono l3) (.cons (r1.mono l3) .nil)⟩ q2
    · exact q2.elim⟩
noncomputable def oRaise2 : Addr → AL → AS := Classical.choose (⟨aRaise2, rfl⟩ : ∃ o, o = aRaise2)
theorem oRaise2_s : @aRaise2 = oRaise2 := (Classical.choose_spec (⟨aRaise2, rfl⟩ : ∃ o, o = aRaise2)).symm
theorem oRaise2_e {C : Addr} {a : AL} {E : XP} {A : AEnds} {fs : Fs} : oRaise2 C a E A fs = a E fs (kRz2 C E) := by rw [← oRaise2_s]; rfl
end G
namespace G
open PySem PySem.Spec PyProof.Rows L2
theorem hotRoom {k : Nat} {A : Around} (r : Room k A) (h : Option Value) : L2H.RoomH k (A.mark h) := ⟨r.dp, r.un⟩
/-- what the text holds of a class with place and stage -/
structure ExI (K : PySem.W.Frag) (mg : Str → Option Value) (x : Str) (C : Addr) (qual : Str) (st : Stmt) : Prop where
  ox : OexC K C
  gC : mg x = some (.ref C)
  f1 : PySem.W.findIn K (.ref C) "place" = some none
  f2 : PySem.W.findIn K (.ref C) "stage" = some none
  ini : ∃ fI fd, L2.Fun K "__init__" qual st fI fd ∧ PySem.W.findIn K (.ref C) "__init__" = some (some (.ref fI)) ∧ PySem.W.typeIn K (.ref fI) = some (.type "function")
/-- it may be made -/
structure MkX (P : Program) (w : World) (K : PySem.W.Frag) (mg : Str → Option Value) (base : Heap) (k : Nat) (x : Str) (C : Addr) : Prop where
  ox : OexC K C
  gC : mg x = some (.ref C)
  f1 : PySem.W.findIn K (.ref C) "place" = some none
  f2 : PySem.W.findIn K (.ref C) "stage" = some none
  ini : ∃ fI fd, PySem.W.findIn K (.ref C) "__init__" = some (some (.ref fI)) ∧ PySem.W.typeIn K (.ref fI) = some (.type "function") ∧ FnOk P w K mg base CX0 k fI fd ["self", "place", "stage"] (spI2 K) ∧ L2.Binds K fd ["self", "place", "stage"] []
theorem MkX.mono {P : Program} {w : World} {K : PySem.W.Frag} {mg : Str → Option Value} {base : Heap} {j k : Nat} {x : Str} {C : Addr} (h : MkX P w K mg base j x C) (l : j ≤ k) : MkX P w K mg base k x C :=
  ⟨h.ox, h.gC, h.f1, h.f2, let ⟨fI, fd, h1, h2, h3, h4⟩ := h.ini; ⟨fI, fd, h1, h2, h3.mono l, h4⟩⟩
theorem mkx_of {P : Program} {w : World} {K : PySem.W.Frag} {mg : Str → Option Value} {base : Heap} {k : Nat} {x : Str} {C : Addr} {qual : Str} {st : Stmt} (h : ExI K mg x C qual st)
    (hb : ∀ (kV doc pm : Value) (an : Option Addr) (cdv ct : Value) (us : List Value), us.length = (["self", "place", "stage"] : List Str).length → bindArgs (PySem.W.fnOf "__init__" qual (defArgs st) (defBody st) (defScope st) .none kV doc pm an cdv ct) ⟨us, []⟩ = pure ((["self", "place", "stage"] : List Str).zip us))
    (ok : ∀ f fd, L2.Fun K "__init__" qual st f fd → FnOk P w K mg base CX0 k f fd ["self", "place", "stage"] (spI2 K)) : MkX P w K mg base k x C :=
  ⟨h.ox, h.gC, h.f1, h.f2, let ⟨fI, fd, F, h1, h2⟩ := h.ini; ⟨fI, fd, h1, h2, ok fI fd F, F.binds hb⟩⟩
theorem spI2_len {K : PySem.W.Frag} (vs : List V) (H : Hp) (Q : VK) (E : XK) (h : spI2 K vs H Q E) : vs.length = (["self", "place", "stage"] : List Str).length := by
  obtain ⟨_, _, _, _, e, _⟩ := h
  rw [e]; rfl
theorem sx_raise2x {X : Cx} {W : WX} {C : Addr} {x : Str} {k : Nat} {e : Expr} {es : List Expr} {al : AL} {p p2 pos : Pos} (h : MkX X.prog X.w X.K X.mg X.base k x C) (hr : Room (k + 1) X.A) (tk : Takes X W) (ha : EL X (WE W) (e :: es) al) (hc : X.calm = true := by rfl) (hg : Gl X x := by rfl) (hdb : (x == ("__debug__" : Str)) = false := by decide)
    (he : starEach (e :: es) X.env = (false, eval e X.env) :: starEach es X.env := by rfl) (hpl : (backTo p2 (starEach es X.env)).any (·.1) = false := by rfl) :
    SX X (WE W) (.Raise (some (.Call (.Name x p) (e :: es) [] p2)) none pos) (aRaise2 C al) := by
  obtain ⟨fI, fd, h1, h2, h3, h4⟩ := h.ini
  exact sx_raise2 h.ox h.f1 h.f2 h1 h2 h3 hr h4 h.gC tk ha hc hg hdb he hpl
end G
namespace G
open PySem PySem.Spec PyProof.Rows L2
theorem oex_of {K : PySem.W.Frag} {C : Addr} {nm q : Str} {N : Addr} {bs bm : List Value} {sn : List Str} {sub : List Value} {ab : Bool} {col : Option Bool} {dd : Option Addr} {k0 k1 k2 k3 k5 : Option Value} (h : K.lookup C = some (excClassObj nm q C N bs bm true sn sub ab col dd k0 k1 k2 k3 k5 "ValueError.__new__")) (hb : PySem.HandSPX.refsVE bm = true)
    (sa : PySem.W.findIn K (.ref C) "__setattr__" = some (some (.builtin "object.__setattr__"))) (exC : PySem.W.subIn K (.ref C) (.type "BaseException") = some true) (tyC : PySem.W.typeIn K (.ref C) = some (.type "type")) (kC : PySem.W.keepIn K (.ref C) = true) : OexC K C :=
  ⟨⟨_, _, _, _, _, _, _, _, _, _, _, _, _, _, _, h, hb⟩, sa, exC, tyC, kC⟩
end G

namespace G
open PySem PySem.Spec PyProof.Rows L2

/-! exceptions as values -/
theorem pe_of_mk {X : Cx} {e : Expr} {t : L2.St → Hp → XK → Prop} (hex : X.ex = []) (m : PMk X e t) : PE X e (fun σ H Q => t σ H fun cls d H' => ∀ a, H' a = none → Q (.ref a) (upd H' a (xO a cls d))) := by
  refine ⟨fun pins s σ H Q I h => wpAny_mono (m pins s σ H _ I h) (fun u s1 hu => ?_) (fun _ _ z => z)⟩
  obtain ⟨a, oe, vs, sI, H', cls, d, rfl, J, k, hne, ha, hz, hd, h1, na, os, ag, r, q⟩ := hu
  have J1 : Inv X pins σ H' s1 := J.landed (B := sI.heap) (fun b o e _ => e) k (Heap.UpToSlots.of_keeps k) os ag
  have n0 : X.s_0.heap.get? a = none := by
    cases q0 : X.s_0.heap.get? a with
    | none => rfl
    | some o =>
      obtain ⟨o', q'⟩ := J.base.there a o q0 (by rw [hex]; exact fun z => nomatch z)
      rw [hne] at q'
      cases q'
  have nL : a ≠ X.env.locals := fun z => by
    obtain ⟨m, ⟨o, es, ep, ho, r⟩, hl⟩ := J.loc
    rw [← z, hne] at ho
    cases ho
  have np : ∀ p ∈ X.pn ++ pins, p.1 ≠ a := fun p hm z => by
    have q := (J.pin p hm).1
    rw [z, hne] at q
    cases q
  exact ⟨.ref a, _, inv_hold J1 ha hz.1 hz.2 hd na n0 nL np, rfl, q a na⟩
def aMkV0 (C : Addr) (_ : XP) (fs : Fs) (Q : Rx → Fs → Prop) : Prop := Q (.dt (.exc (.ref C) [] [])) fs
theorem mkv_end {K : PySem.W.Frag} {c : Cn} {σ : L2.St} {W : Wd} {fs : Fs} {C : Addr} {od : Option Addr} {xf : XF} {Q : VK} {Q' : Rx → Fs → Prop} (F : Fr K c σ W fs) (xk : XFld K W od xf) (q : Q' (.dt (.exc (.ref C) (xfN xf) (xfV xf))) fs)
    (k : ∀ v r W' fs', Le W W' → Fr K c σ W' fs' → RxOk K c W' σ fs' v r → Q' r fs' → Q v W'.H) : ∀ a, W.H a = none → Q (.ref a) (upd W.H a (xO a (.ref C) od)) := fun a na => by
  obtain ⟨W2, e2, l2, F2, r2⟩ := held (cls := .ref C) F na xk
  rw [← e2]
  exact k _ (.dt _) W2 fs l2 F2 r2 q
theorem ex_mkv0 {X : Cx} {Ec : L2.St → XK} {C : Addr} {x : Str} {p p2 : Pos} (T : ExC X.K X.mg x C) (hex : X.ex = [] := by rfl) (hg : Gl X x := by rfl) (hdb : (x == ("__debug__" : Str)) = false := by decide) :
    EX X Ec (.Call (.Name x p) [] [] p2) (aMkV0 C) := EXt.x ⟨pe_of_mk hex (pmk_own0 T hg hdb), fun c σ W fs E Q Q' F A q k => mkv_end (od := none) (xf := none) F trivial q k⟩
/-- __init__(self, place) -/
def spI1 (K : PySem.W.Frag) : Sp := fun vs H Q _ => ∃ (a C : Addr) (v1 : V), vs = [.ref a, v1] ∧ OexC K C ∧ PySem.W.findIn K (.ref C) "place" = some none ∧ H a = some (exo a C none) ∧
  ∀ dx, H dx = none → dx ≠ a → Q .non (upd (upd H dx (exd dx [("place", v1)])) a (exo a C (some dx)))
def tI1 (K : PySem.W.Frag) (m : Str) : TS := fun D σ H => tVeI K (tCons (tVar 0) (tCons (tC (.str m)) tNil)) σ H fun _ H1 => tOst K "place" (tVar 0) (tVar 1) D σ H1
theorem tI1_ok {K : PySem.W.Frag} {m : Str} {vs : List V} {H : Hp} {Q : VK} {D : Ends} {N : List Str} (hN : N = (["self", "place"] : List Str)) (hQ : ∀ σ H', Q .non H' → D.nx σ H') (h : spI1 K vs H Q E0) : tI1 K m D (L2.start N vs) H := by
  subst hN
  obtain ⟨a, C, v1, rfl, ox, f1, ha, q⟩ := h
  refine ⟨.ref a, rfl, a, C, [.str m], rfl, by simp, ox, ha, ?_⟩
  exact ⟨v1, rfl, .ref a, rfl, a, C, rfl, ox, f1, .inl ⟨ha, fun dx hd hne => hQ _ _ (q dx hd hne)⟩⟩
theorem spI1_len {K : PySem.W.Frag} (vs : List V) (H : Hp) (Q : VK) (E : XK) (h : spI1 K vs H Q E) : vs.length = (["self", "place"] : List Str).length := by
  obtain ⟨_, _, _, e, _⟩ := h
  rw [e]; rfl
/-- what the text holds of a class with place -/
structure ExI1 (K : PySem.W.Frag) (mg : Str → Option Value) (x : Str) (C : Addr) (qual : Str) (st : Stmt) : Prop where
  ox : OexC K C
  gC : mg x = some (.ref C)
  f1 : PySem.W.findIn K (.ref C) "place" = some none
  ini : ∃ fI fd, L2.Fun K "__init__" qual st fI fd ∧ PySem.W.findIn K (.ref C) "__init__" = some (some (.ref fI)) ∧ PySem.W.typeIn K (.ref fI) = some (.type "function")
/-- it may be made -/
structure MkX1 (P : Program) (w : World) (K : PySem.W.Frag) (mg : Str → Option Value) (base : Heap) (k : Nat) (x : Str) (C : Addr) : Prop where
  ox : OexC K C
  gC : mg x = some (.ref C)
  f1 : PySem.W.findIn K (.ref C) "place" = some none
  ini : ∃ fI fd, PySem.W.findIn K (.ref C) "__init__" = some (some (.ref fI)) ∧ PySem.W.typeIn K (.ref fI) = some (.type "function") ∧ FnOk P w K mg base CX0 k fI fd ["self", "place"] (spI1 K) ∧ L2.Binds K fd ["self", "place"] []
theorem MkX1.mono {P : Program} {w : World} {K : PySem.W.Frag} {mg : Str → Option Value} {base : Heap} {j k : Nat} {x : Str} {C : Addr} (h : MkX1 P w K mg base j x C) (l : j ≤ k) : MkX1 P w K mg base k x C :=
  ⟨h.ox, h.gC, h.f1, let ⟨fI, fd, h1, h2, h3, h4⟩ := h.ini; ⟨fI, fd, h1, h2, h3.mono l, h4⟩⟩
theorem mkx1_of {P : Program} {w : World} {K : PySem.W.Frag} {mg : Str → Option Value} {base : Heap} {k : Nat} {x : Str} {C : Addr} {qual : Str} {st : Stmt} (h : ExI1 K mg x C qual st)
    (hb : ∀ (kV doc pm : Value) (an : Option Addr) (cdv ct : Value) (us : List Value), us.length = (["self", "place"] : List Str).length → bindArgs (PySem.W.fnOf "__init__" qual (defArgs st) (defBody st) (defScope st) .none kV doc pm an cdv ct) ⟨us, []⟩ = pure ((["self", "place"] : List Str).zip us))
    (ok : ∀ f fd, L2.Fun K "__init__" qual st f fd → FnOk P w K mg base CX0 k f fd ["self", "place"] (spI1 K)) : MkX1 P w K mg base k x C :=
  ⟨h.ox, h.gC, h.f1, let ⟨fI, fd, F, h1, h2⟩ := h.ini; ⟨fI, fd, h1, h2, ok fI fd F, F.binds hb⟩⟩
/-- what is made, and its dict -/
theorem heap_x1 {H : Hp} {a dx C : Addr} {v1 : V} (na : H a = none) (hne : dx ≠ a) :
    upd (L2.del (upd (upd (upd H a (exo a C none)) dx (exd dx [("place", v1)])) a (exo a C (some dx))) a) dx (.xd [("place", v1)]) = upd H dx (.xd [("place", v1)]) := by
  funext b
  by_cases hb : b = dx
  · rw [hb, upd_same, upd_same]
  · rw [upd_ne hb, upd_ne hb]
    by_cases hc : b = a
    · rw [hc, del_same, na]
    · rw [del_ne hc, upd_ne hc, upd_ne hb, upd_ne hc]
def kMkV1 (C : Addr) (Q : Rx → Fs → Prop) (ds : List D) (fs1 : Fs) : Prop := match ds with
  | [d1] => Q (.dt (.exc (.ref C) ["place"] [d1])) fs1
  | _ => False
def kMkV2 (C : Addr) (Q : Rx → Fs → Prop) (ds : List D) (fs1 : Fs) : Prop := match ds with
  | [d1, d2] => Q (.dt (.exc (.ref C) ["stage", "place"] [d2, d1])) fs1
  | _ => False
def aMkV1 (C : Addr) (a : AL) (E : XP) (fs : Fs) (Q : Rx → Fs → Prop) : Prop := a E fs (kMkV1 C Q)
def aMkV2 (C : Addr) (a : AL) (E : XP) (fs : Fs) (Q : Rx → Fs → Prop) : Prop := a E fs (kMkV2 C Q)
def kRz1 (C : Addr) (E : XP) (ds : List D) (fs1 : Fs) : Prop := match ds with
  | [d1] => E (.ref C) (some [("place", d1)]) fs1
  | _ => False
def aRaise1 (C : Addr) (a : AL) (E : XP) (_ : AEnds) (fs : Fs) : Prop := a E fs (kRz1 C E)
section
variable {X : Cx} {Ec : L2.St → XK} {C : Addr} {x : Str} {k : Nat} {e : Expr} {es : List Expr} {al : AL} {p p2 : Pos}
theorem mk1_step {K : PySem.W.Frag} {c : Cn} {σ : L2.St} {W2 : Wd} {fs2 : Fs} {v1 : V} {d1 : D} {R : XK} (ox : OexC K C) (f1 : PySem.W.findIn K (.ref C) "place" = some none) (F2 : Fr K c σ W2 fs2) (r1 : Rep K W2 v1 d1)
    (q : ∀ (dx : Addr) (W3 : Wd), Le W2 W3 → Fr K c σ W3 fs2 → XFld K W3 (some dx) (some [("place", d1)]) → R (.ref C) (some dx) W3.H) :
    [v1].length ≤ 1000 ∧ ∀ a, W2.H a = none → spI1 K (.ref a :: ([v1] ++ [])) (upd W2.H a (exo a C none)) (fun v H2 => v = .non ∧ ∃ (d : Addr) (fs : List (Str × V)), H2 a = some (exo a C (some d)) ∧ H2 d = some (exd d fs) ∧ W2.H d = none ∧ R (.ref C) (some d) (upd (del H2 a) d (.xd fs))) (fun _ _ _ => False) := by
  refine ⟨by simp, fun a na => ⟨a, C, v1, rfl, ox, f1, upd_same, fun dx hd hne => ⟨rfl, dx, [("place", v1)], upd_same, ?_, ?_, ?_⟩⟩⟩
  · rw [upd_ne hne, upd_same]
  · rw [upd_ne hne] at hd; exact hd
  · rw [heap_x1 na hne]
    rw [upd_ne hne] at hd
    obtain ⟨W3, e3, l3, F3, f3⟩ := laidF F2 hd (.xd [("place", v1)])
    rw [← e3]
    exact q dx W3 l3 F3 ⟨[("place", v1)], f3, by rw [e3, upd_same], rfl, .cons (r1.mono l3) .nil⟩
theorem mk2_step {K : PySem.W.Frag} {c : Cn} {σ : L2.St} {W2 : Wd} {fs2 : Fs} {v1 v2 : V} {d1 d2 : D} {R : XK} (ox : OexC K C) (f1 : PySem.W.findIn K (.ref C) "place" = some none) (f2 : PySem.W.findIn K (.ref C) "stage" = some none) (F2 : Fr K c σ W2 fs2) (r1 : Rep K W2 v1 d1) (r2 : Rep K W2 v2 d2)
    (q : ∀ (dx : Addr) (W3 : Wd), Le W2 W3 → Fr K c σ W3 fs2 → XFld K W3 (some dx) (some [("stage", d2), ("place", d1)]) → R (.ref C) (some dx) W3.H) :
    [v1, v2].length ≤ 1000 ∧ ∀ a, W2.H a = none → spI2 K (.ref a :: ([v1, v2] ++ [])) (upd W2.H a (exo a C none)) (fun v H2 => v = .non ∧ ∃ (d : Addr) (fs : List (Str × V)), H2 a = some (exo a C (some d)) ∧ H2 d = some (exd d fs) ∧ W2.H d = none ∧ R (.ref C) (some d) (upd (del H2 a) d (.xd fs))) (fun _ _ _ => False) := by
  refine ⟨by simp, fun a na => ⟨a, C, v1, v2, rfl, ox, f1, f2, upd_same, fun dx hd hne => ⟨rfl, dx, [("stage", v2), ("place", v1)], ?_, upd_same, ?_, ?_⟩⟩⟩
  · rw [upd_ne (Ne.symm hne), upd_same]
  · rw [upd_ne hne] at hd; exact hd
  · rw [heap_xd na hne]
    rw [upd_ne hne] at hd
    obtain ⟨W3, e3, l3, F3, f3⟩ := laidF F2 hd (.xd [("stage", v2), ("place", v1)])
    rw [← e3]
    exact q dx W3 l3 F3 ⟨[("stage", v2), ("place", v1)], f3, by rw [e3, upd_same], rfl, .cons (r2.mono l3) (.cons (r1.mono l3) .nil)⟩
theorem ex_mkv1 (h : MkX1 X.prog X.w X.K X.mg X.base k x C) (hr : Room (k + 1) X.A) (ha : EL X Ec (e :: es) al) (hex : X.ex = [] := by rfl) (hg : Gl X x := by rfl) (hdb : (x == ("__debug__" : Str)) = false := by decide)
    (he : starEach (e :: es) X.env = (false, eval e X.env) :: starEach es X.env := by rfl) (hpl : (backTo p2 (starEach es X.env)).any (·.1) = false := by rfl) : EX X Ec (.Call (.Name x p) (e :: es) [] p2) (aMkV1 C al) := by
  obtain ⟨fI, fd, h1, h2, h3, h4⟩ := h.ini
  refine EXt.x ⟨pe_of_mk hex (pmk_oex (CX := CX0) h.ox h1 h2 h3 hr h4 .nil passE hg h.gC ha.p hdb he hpl), fun c σ W fs E Q Q' F A q k => ?_⟩
  refine ha.s c σ W fs E _ _ F A q fun vs ds W2 fs2 l2 F2 r2 q2 => ?_
  unfold kMkV1 at q2
  split at q2
  · rename_i d1
    cases r2 with
    | cons r1 r2 =>
      cases r2
      exact mk1_step (R := fun cls d H' => ∀ a, H' a = none → Q (.ref a) (upd H' a (xO a cls d))) h.ox h.f1 F2 r1 fun dx W3 l3 F3 xk => mkv_end F3 xk q2 fun v r W' fs' l F' ok q => k v r W' fs' ((l2.trans l3).trans l) F' ok q
  · exact q2.elim
theorem ex_mkv2 (h : MkX X.prog X.w X.K X.mg X.base k x C) (hr : Room (k + 1) X.A) (ha : EL X Ec (e :: es) al) (hex : X.ex = [] := by rfl) (hg : Gl X x := by rfl) (hdb : (x == ("__debug__" : Str)) = false := by decide)
    (he : starEach (e :: es) X.env = (false, eval e X.env) :: starEach es X.env := by rfl) (hpl : (backTo p2 (starEach es X.env)).any (·.1) = false := by rfl) : EX X Ec (.Call (.Name x p) (e :: es) [] p2) (aMkV2 C al) := by
  obtain ⟨fI, fd, h1, h2, h3, h4⟩ := h.ini
  refine EXt.x ⟨pe_of_mk hex (pmk_oex (CX := CX0) h.ox h1 h2 h3 hr h4 .nil passE hg h.gC ha.p hdb he hpl), fun c σ W fs E Q Q' F A q k => ?_⟩
  refine ha.s c σ W fs E _ _ F A q fun vs ds W2 fs2 l2 F2 r2 q2 => ?_
  unfold kMkV2 at q2
  split at q2
  · rename_i d1 d2
    cases r2 with
    | cons r1 r2 => cases r2 with
      | cons r2 r3 =>
        cases r3
        exact mk2_step (R := fun cls d H' => ∀ a, H' a = none → Q (.ref a) (upd H' a (xO a cls d))) h.ox h.f1 h.f2 F2 r1 r2 fun dx W3 l3 F3 xk => mkv_end F3 xk q2 fun v r W' fs' l F' ok q => k v r W' fs' ((l2.trans l3).trans l) F' ok q
  · exact q2.elim
theorem sx_raise1x {W : WX} {pos : Pos} (h : MkX1 X.prog X.w X.K X.mg X.base k x C) (hr : Room (k + 1) X.A) (tk : Takes X W) (ha : EL X (WE W) (e :: es) al) (hc : X.calm = true := by rfl) (hg : Gl X x := by rfl) (hdb : (x == ("__debug__" : Str)) = false := by decide)
    (he : starEach (e :: es) X.env = (false, eval e X.env) :: starEach es X.env := by rfl) (hpl : (backTo p2 (starEach es X.env)).any (·.1) = false := by rfl) :
    SX X (WE W) (.Raise (some (.Call (.Name x p) (e :: es) [] p2)) none pos) (aRaise1 C al) := by
  obtain ⟨fI, fd, h1, h2, h3, h4⟩ := h.ini
  exact SXt.x ⟨ps_raise hc tk (pmk_oex (CX := CX0) h.ox h1 h2 h3 hr h4 .nil passE hg h.gC ha.p hdb he hpl), fun cn σ W1 fs E D A F ad h' k => by
    refine ha.s cn σ W1 fs E _ _ F ad h' fun vs ds W2 fs2 l2 F2 r2 q2 => ?_
    unfold kRz1 at q2
    split at q2
    · rename_i d1
      cases r2 with
      | cons r1 r2 =>
        cases r2
        exact mk1_step h.ox h.f1 F2 r1 fun dx W3 l3 F3 xk => ad σ W3 fs2 (.ref C) (some dx) (some [("place", d1)]) F3 xk q2
    · exact q2.elim⟩
end
noncomputable def oMkV0 : Addr → AX := Classical.choose (⟨aMkV0, rfl⟩ : ∃ o, o = aMkV0)
theorem oMkV0_s : @aMkV0 = oMkV0 := (Classical.choose_spec (⟨aMkV0, rfl⟩ : ∃ o, o = aMkV0)).symm
theorem oMkV0_e {C : Addr} {E : XP} {fs : Fs} {Q : Rx → Fs → Prop} : oMkV0 C E fs Q = Q (.dt (.exc (.ref C) [] [])) fs := by rw [← oMkV0_s]; rfl
noncomputable def oMkV1 : Addr → AL → AX := Classical.choose (⟨aMkV1, rfl⟩ : ∃ o, o = aMkV1)
theorem oMkV1_s : @aMkV1 = oMkV1 := (Classical.choose_spec (⟨aMkV1, rfl⟩ : ∃ o, o = aMkV1)).symm
theorem oMkV1_e {C : Addr} {a : AL} {E : XP} {fs : Fs} {Q : Rx → Fs → Prop} : oMkV1 C a E fs Q = a E fs (kMkV1 C Q) := by rw [← oMkV1_s]; rfl
noncomputable def oMkV2 : Addr → AL → AX := Classical.choose (⟨aMkV2, rfl⟩ : ∃ o, o = aMkV2)
theorem oMkV2_s : @aMkV2 = oMkV2 := (Classical.choose_spec (⟨aMkV2, rfl⟩ : ∃ o, o = aMkV2)).symm
theorem oMkV2_e {C : Addr} {a : AL} {E : XP} {fs : Fs} {Q : Rx → Fs → Prop} : oMkV2 C a E fs Q = a E fs (kMkV2 C Q) := by rw [← oMkV2_s]; rfl
noncomputable def oRaise1 : Addr → AL → AS := Classical.choose (⟨aRaise1, rfl⟩ : ∃ o, o = aRaise1)
theorem oRaise1_s : @aRaise1 = oRaise1 := (Classical.choose_spec (⟨aRaise1, rfl⟩ : ∃ o, o = aRaise1)).symm
theorem oRaise1_e {C : Addr} {a : AL} {E : XP} {A : AEnds} {fs : Fs} : oRaise1 C a E A fs = a E fs (kRz1 C E) := by rw [← oRaise1_s]; rfl
end G

set_option maxHeartbeats 4000000
namespace K18
open PySem PySem.Spec PyProof.Rows L2 G
def topS (i : Nat) : Stmt := PySem.Challenge.pw_gapwright_k18_errors_as_told.main.body.getD i (.Pass ⟨0, 0, 0, 0⟩)
abbrev s_law_mixed : Stmt := topS 19
theorem sc_law_mixed : FnScope ["_law_cell", "_law_turn", "_law_once"] ["_law_cell", "_law_turn"] (defScope s_law_mixed) := ⟨rfl, rfl, rfl, by decide +kernel, rfl, by decide +kernel, by decide +kernel⟩
abbrev s_law_pot : Stmt := topS 20
theorem sc_law_pot : FnScope ["_law_script"] ["_law_script"] (defScope s_law_pot) := ⟨rfl, rfl, rfl, by decide +kernel, rfl, by decide +kernel, by decide +kernel⟩
abbrev s_law_draw : Stmt := topS 21
theorem sc_law_draw : FnScope ["_law_pot_here", "_law_many", "_law_cell", "_law_one"] ["_law_pot_here", "_law_many"] (defScope s_law_draw) := ⟨rfl, rfl, rfl, by decide +kernel, rfl, by decide +kernel, by decide +kernel⟩
abbrev s_law_marks : Stmt := topS 22
theorem sc_law_marks : FnScope ["_law_error", "_law_marks_here"] ["_law_error"] (defScope s_law_marks) := ⟨rfl, rfl, rfl, by decide +kernel, rfl, by decide +kernel, by decide +kernel⟩
abbrev s_law_errors : Stmt := topS 23
theorem sc_law_errors : FnScope ["_law_place", "_law_stage", "_law_alone", "_law_placed", "_law_staged"] ["_law_place", "_law_stage"] (defScope s_law_errors) := ⟨rfl, rfl, rfl, by decide +kernel, rfl, by decide +kernel, by decide +kernel⟩
abbrev s_law_caught : Stmt := topS 24
theorem sc_law_caught : FnScope ["_law_place", "_law_stage", "_law_way", "_law_told", "e"] ["_law_place", "_law_stage", "_law_way"] (defScope s_law_caught) := ⟨rfl, rfl, rfl, by decide +kernel, rfl, by decide +kernel, by decide +kernel⟩
abbrev s_law_good : Stmt := topS 25
theorem sc_law_good : FnScope ["_law_k", "_law_error", "_law_place", "_law_stage", "_law_other"] ["_law_k", "_law_error", "_law_place", "_law_stage"] (defScope s_law_good) := ⟨rfl, rfl, rfl, by decide +kernel, rfl, by decide +kernel, by decide +kernel⟩
abbrev s_law : Stmt := topS 26
theorem sc_law : FnScope ["_law_script", "_law_pot_here", "_law_turn", "_law_place", "_law_stage", "_law_last", "_law_k", "_law_error"] ["_law_script"] (defScope s_law) := ⟨rfl, rfl, rfl, by decide +kernel, rfl, by decide +kernel, by decide +kernel⟩
abbrev s_TooGreat___init__ : Stmt := inClass (topS 6) 0
theorem sc_TooGreat___init__ : FnScope ["self", "place"] ["self", "place"] (defScope s_TooGreat___init__) := ⟨rfl, rfl, rfl, by decide +kernel, rfl, by decide +kernel, by decide +kernel⟩
abbrev s_TooLong___init__ : Stmt := inClass (topS 7) 0
theorem sc_TooLong___init__ : FnScope ["self", "place"] ["self", "place"] (defScope s_TooLong___init__) := ⟨rfl, rfl, rfl, by decide +kernel, rfl, by decide +kernel, by decide +kernel⟩
abbrev s_TooLarge___init__ : Stmt := inClass (topS 8) 0
theorem sc_TooLarge___init__ : FnScope ["self", "place"] ["self", "place"] (defScope s_TooLarge___init__) := ⟨rfl, rfl, rfl, by decide +kernel, rfl, by decide +kernel, by decide +kernel⟩
abbrev s_NoName___init__ : Stmt := inClass (topS 9) 0
theorem sc_NoName___init__ : FnScope ["self", "place", "stage"] ["self", "place", "stage"] (defScope s_NoName___init__) := ⟨rfl, rfl, rfl, by decide +kernel, rfl, by decide +kernel, by decide +kernel⟩
abbrev s_OtherStage___init__ : Stmt := inClass (topS 10) 0
theorem sc_OtherStage___init__ : FnScope ["self", "place", "stage"] ["self", "place", "stage"] (defScope s_OtherStage___init__) := ⟨rfl, rfl, rfl, by decide +kernel, rfl, by decide +kernel, by decide +kernel⟩
abbrev s_Shut___init__ : Stmt := inClass (topS 11) 0
theorem sc_Shut___init__ : FnScope ["self", "place", "stage"] ["self", "place", "stage"] (defScope s_Shut___init__) := ⟨rfl, rfl, rfl, by decide +kernel, rfl, by decide +kernel, by decide +kernel⟩
abbrev s_WrongKind___init__ : Stmt := inClass (topS 12) 0
theorem sc_WrongKind___init__ : FnScope ["self", "place", "stage"] ["self", "place", "stage"] (defScope s_WrongKind___init__) := ⟨rfl, rfl, rfl, by decide +kernel, rfl, by decide +kernel, by decide +kernel⟩
abbrev s_NoPiece___init__ : Stmt := inClass (topS 13) 0
theorem sc_NoPiece___init__ : FnScope ["self", "place", "stage"] ["self", "place", "stage"] (defScope s_NoPiece___init__) := ⟨rfl, rfl, rfl, by decide +kernel, rfl, by decide +kernel, by decide +kernel⟩
abbrev s_NoGap___init__ : Stmt := inClass (topS 14) 0
theorem sc_NoGap___init__ : FnScope ["self", "place", "stage"] ["self", "place", "stage"] (defScope s_NoGap___init__) := ⟨rfl, rfl, rfl, by decide +kernel, rfl, by decide +kernel, by decide +kernel⟩
abbrev s_Unlike___init__ : Stmt := inClass (topS 15) 0
theorem sc_Unlike___init__ : FnScope ["self", "place", "stage"] ["self", "place", "stage"] (defScope s_Unlike___init__) := ⟨rfl, rfl, rfl, by decide +kernel, rfl, by decide +kernel, by decide +kernel⟩
abbrev s_GapLeft___init__ : Stmt := inClass (topS 16) 0
theorem sc_GapLeft___init__ : FnScope ["self", "place", "stage"] ["self", "place", "stage"] (defScope s_GapLeft___init__) := ⟨rfl, rfl, rfl, by decide +kernel, rfl, by decide +kernel, by decide +kernel⟩
abbrev s_NoRub___init__ : Stmt := inClass (topS 17) 0
theorem sc_NoRub___init__ : FnScope ["self", "place", "stage"] ["self", "place", "stage"] (defScope s_NoRub___init__) := ⟨rfl, rfl, rfl, by decide +kernel, rfl, by decide +kernel, by decide +kernel⟩
structure Tx (K : PySem.W.Frag) (mg : Str → Option Value) (cl_GapError cl_NoPlace cl_NoText cl_NoMaking cl_NoRow cl_TooGreat cl_TooLong cl_TooLarge cl_NoName cl_OtherStage cl_Shut cl_WrongKind cl_NoPiece cl_NoGap cl_Unlike cl_GapLeft cl_NoRub : Addr) : Prop where
  n_ValueError : mg "ValueError" = none
  n_all : mg "all" = none
  n_enumerate : mg "enumerate" = none
  n_isinstance : mg "isinstance" = none
  n_len : mg "len" = none
  n_list : mg "list" = none
  n_max : mg "max" = none
  n_min : mg "min" = none
  n_range : mg "range" = none
  n_tuple : mg "tuple" = none
  f_law_mixed : FnF K mg "_law_mixed" s_law_mixed
  f_law_pot : FnF K mg "_law_pot" s_law_pot
  f_law_draw : FnF K mg "_law_draw" s_law_draw
  f_law_marks : FnF K mg "_law_marks" s_law_marks
  f_law_errors : FnF K mg "_law_errors" s_law_errors
  f_law_caught : FnF K mg "_law_caught" s_law_caught
  f_law_good : FnF K mg "_law_good" s_law_good
  f_law : FnF K mg "law" s_law
  x_GapError : GlD K mg "GapError" (.oth (.ref cl_GapError))
  e_GapError : mg "GapError" = some (.ref cl_GapError)
  x_NoPlace : GlD K mg "NoPlace" (.oth (.ref cl_NoPlace))
  e_NoPlace : mg "NoPlace" = some (.ref cl_NoPlace)
  x_NoText : GlD K mg "NoText" (.oth (.ref cl_NoText))
  e_NoText : mg "NoText" = some (.ref cl_NoText)
  x_NoMaking : GlD K mg "NoMaking" (.oth (.ref cl_NoMaking))
  e_NoMaking : mg "NoMaking" = some (.ref cl_NoMaking)
  x_NoRow : GlD K mg "NoRow" (.oth (.ref cl_NoRow))
  e_NoRow : mg "NoRow" = some (.ref cl_NoRow)
  x_TooGreat : GlD K mg "TooGreat" (.oth (.ref cl_TooGreat))
  e_TooGreat : mg "TooGreat" = some (.ref cl_TooGreat)
  x_TooLong : GlD K mg "TooLong" (.oth (.ref cl_TooLong))
  e_TooLong : mg "TooLong" = some (.ref cl_TooLong)
  x_TooLarge : GlD K mg "TooLarge" (.oth (.ref cl_TooLarge))
  e_TooLarge : mg "TooLarge" = some (.ref cl_TooLarge)
  x_NoName : GlD K mg "NoName" (.oth (.ref cl_NoName))
  e_NoName : mg "NoName" = some (.ref cl_NoName)
  x_OtherStage : GlD K mg "OtherStage" (.oth (.ref cl_OtherStage))
  e_OtherStage : mg "OtherStage" = some (.ref cl_OtherStage)
  x_Shut : GlD K mg "Shut" (.oth (.ref cl_Shut))
  e_Shut : mg "Shut" = some (.ref cl_Shut)
  x_WrongKind : GlD K mg "WrongKind" (.oth (.ref cl_WrongKind))
  e_WrongKind : mg "WrongKind" = some (.ref cl_WrongKind)
  x_NoPiece : GlD K mg "NoPiece" (.oth (.ref cl_NoPiece))
  e_NoPiece : mg "NoPiece" = some (.ref cl_NoPiece)
  x_NoGap : GlD K mg "NoGap" (.oth (.ref cl_NoGap))
  e_NoGap : mg "NoGap" = some (.ref cl_NoGap)
  x_Unlike : GlD K mg "Unlike" (.oth (.ref cl_Unlike))
  e_Unlike : mg "Unlike" = some (.ref cl_Unlike)
  x_GapLeft : GlD K mg "GapLeft" (.oth (.ref cl_GapLeft))
  e_GapLeft : mg "GapLeft" = some (.ref cl_GapLeft)
  x_NoRub : GlD K mg "NoRub" (.oth (.ref cl_NoRub))
  e_NoRub : mg "NoRub" = some (.ref cl_NoRub)
  r_NoPlace : ExC K mg "NoPlace" cl_NoPlace
  r_NoText : ExC K mg "NoText" cl_NoText
  r_NoMaking : ExC K mg "NoMaking" cl_NoMaking
  r_NoRow : ExC K mg "NoRow" cl_NoRow
  i2_NoName : ExI K mg "NoName" cl_NoName "NoName.__init__" s_NoName___init__
  xf_NoName : XfC K cl_NoName
  fp_NoName : PySem.W.findIn K (.ref cl_NoName) "place" = some none
  fs_NoName : PySem.W.findIn K (.ref cl_NoName) "stage" = some none
  i2_OtherStage : ExI K mg "OtherStage" cl_OtherStage "OtherStage.__init__" s_OtherStage___init__
  xf_OtherStage : XfC K cl_OtherStage
  fp_OtherStage : PySem.W.findIn K (.ref cl_OtherStage) "place" = some none
  fs_OtherStage : PySem.W.findIn K (.ref cl_OtherStage) "stage" = some none
  i2_Shut : ExI K mg "Shut" cl_Shut "Shut.__init__" s_Shut___init__
  xf_Shut : XfC K cl_Shut
  fp_Shut : PySem.W.findIn K (.ref cl_Shut) "place" = some none
  fs_Shut : PySem.W.findIn K (.ref cl_Shut) "stage" = some none
  i2_WrongKind : ExI K mg "WrongKind" cl_WrongKind "WrongKind.__init__" s_WrongKind___init__
  xf_WrongKind : XfC K cl_WrongKind
  fp_WrongKind : PySem.W.findIn K (.ref cl_WrongKind) "place" = some none
  fs_WrongKind : PySem.W.findIn K (.ref cl_WrongKind) "stage" = some none
  i2_NoPiece : ExI K mg "NoPiece" cl_NoPiece "NoPiece.__init__" s_NoPiece___init__
  xf_NoPiece : XfC K cl_NoPiece
  fp_NoPiece : PySem.W.findIn K (.ref cl_NoPiece) "place" = some none
  fs_NoPiece : PySem.W.findIn K (.ref cl_NoPiece) "stage" = some none
  i2_NoGap : ExI K mg "NoGap" cl_NoGap "NoGap.__init__" s_NoGap___init__
  xf_NoGap : XfC K cl_NoGap
  fp_NoGap : PySem.W.findIn K (.ref cl_NoGap) "place" = some none
  fs_NoGap : PySem.W.findIn K (.ref cl_NoGap) "stage" = some none
  i2_Unlike : ExI K mg "Unlike" cl_Unlike "Unlike.__init__" s_Unlike___init__
  xf_Unlike : XfC K cl_Unlike
  fp_Unlike : PySem.W.findIn K (.ref cl_Unlike) "place" = some none
  fs_Unlike : PySem.W.findIn K (.ref cl_Unlike) "stage" = some none
  i2_GapLeft : ExI K mg "GapLeft" cl_GapLeft "GapLeft.__init__" s_GapLeft___init__
  xf_GapLeft : XfC K cl_GapLeft
  fp_GapLeft : PySem.W.findIn K (.ref cl_GapLeft) "place" = some none
  fs_GapLeft : PySem.W.findIn K (.ref cl_GapLeft) "stage" = some none
  i2_NoRub : ExI K mg "NoRub" cl_NoRub "NoRub.__init__" s_NoRub___init__
  xf_NoRub : XfC K cl_NoRub
  fp_NoRub : PySem.W.findIn K (.ref cl_NoRub) "place" = some none
  fs_NoRub : PySem.W.findIn K (.ref cl_NoRub) "stage" = some none
  i1_TooGreat : ExI1 K mg "TooGreat" cl_TooGreat "TooGreat.__init__" s_TooGreat___init__
  xf_TooGreat : XfC K cl_TooGreat
  fp_TooGreat : PySem.W.findIn K (.ref cl_TooGreat) "place" = some none
  i1_TooLong : ExI1 K mg "TooLong" cl_TooLong "TooLong.__init__" s_TooLong___init__
  xf_TooLong : XfC K cl_TooLong
  fp_TooLong : PySem.W.findIn K (.ref cl_TooLong) "place" = some none
  i1_TooLarge : ExI1 K mg "TooLarge" cl_TooLarge "TooLarge.__init__" s_TooLarge___init__
  xf_TooLarge : XfC K cl_TooLarge
  fp_TooLarge : PySem.W.findIn K (.ref cl_TooLarge) "place" = some none
  rd_GapError : ClX.CRead K cl_GapError (.type "type")
  vi_GapError : PySem.W.findCls K (.ref cl_GapError) (.type "type") "__init__" = some (.val (.builtin "ValueError.__init__"))
  xc_NoPlace : XCl K cl_NoPlace
  em_NoPlace : PySem.W.exmOne K (.ref cl_NoPlace) (.ref cl_GapError) = some true
  kv_NoPlace : PySem.W.kitOne K (.ref cl_NoPlace) (.type "ValueError") = some true
  ki_NoPlace_GapError : PySem.W.kitOne K (.ref cl_NoPlace) (.ref cl_GapError) = some true
  ki_NoPlace_NoPlace : PySem.W.kitOne K (.ref cl_NoPlace) (.ref cl_NoPlace) = some true
  ki_NoPlace_NoText : PySem.W.kitOne K (.ref cl_NoPlace) (.ref cl_NoText) = some false
  ki_NoPlace_NoMaking : PySem.W.kitOne K (.ref cl_NoPlace) (.ref cl_NoMaking) = some false
  ki_NoPlace_NoRow : PySem.W.kitOne K (.ref cl_NoPlace) (.ref cl_NoRow) = some false
  ki_NoPlace_TooGreat : PySem.W.kitOne K (.ref cl_NoPlace) (.ref cl_TooGreat) = some false
  ki_NoPlace_TooLong : PySem.W.kitOne K (.ref cl_NoPlace) (.ref cl_TooLong) = some false
  ki_NoPlace_TooLarge : PySem.W.kitOne K (.ref cl_NoPlace) (.ref cl_TooLarge) = some false
  ki_NoPlace_NoName : PySem.W.kitOne K (.ref cl_NoPlace) (.ref cl_NoName) = some false
  ki_NoPlace_OtherStage : PySem.W.kitOne K (.ref cl_NoPlace) (.ref cl_OtherStage) = some false
  ki_NoPlace_Shut : PySem.W.kitOne K (.ref cl_NoPlace) (.ref cl_Shut) = some false
  ki_NoPlace_WrongKind : PySem.W.kitOne K (.ref cl_NoPlace) (.ref cl_WrongKind) = some false
  ki_NoPlace_NoPiece : PySem.W.kitOne K (.ref cl_NoPlace) (.ref cl_NoPiece) = some false
  ki_NoPlace_NoGap : PySem.W.kitOne K (.ref cl_NoPlace) (.ref cl_NoGap) = some false
  ki_NoPlace_Unlike : PySem.W.kitOne K (.ref cl_NoPlace) (.ref cl_Unlike) = some false
  ki_NoPlace_GapLeft : PySem.W.kitOne K (.ref cl_NoPlace) (.ref cl_GapLeft) = some false
  ki_NoPlace_NoRub : PySem.W.kitOne K (.ref cl_NoPlace) (.ref cl_NoRub) = some false
  xc_NoText : XCl K cl_NoText
  em_NoText : PySem.W.exmOne K (.ref cl_NoText) (.ref cl_GapError) = some true
  kv_NoText : PySem.W.kitOne K (.ref cl_NoText) (.type "ValueError") = some true
  ki_NoText_GapError : PySem.W.kitOne K (.ref cl_NoText) (.ref cl_GapError) = some true
  ki_NoText_NoPlace : PySem.W.kitOne K (.ref cl_NoText) (.ref cl_NoPlace) = some false
  ki_NoText_NoText : PySem.W.kitOne K (.ref cl_NoText) (.ref cl_NoText) = some true
  ki_NoText_NoMaking : PySem.W.kitOne K (.ref cl_NoText) (.ref cl_NoMaking) = some false
  ki_NoText_NoRow : PySem.W.kitOne K (.ref cl_NoText) (.ref cl_NoRow) = some false
  ki_NoText_TooGreat : PySem.W.kitOne K (.ref cl_NoText) (.ref cl_TooGreat) = some false
  ki_NoText_TooLong : PySem.W.kitOne K (.ref cl_NoText) (.ref cl_TooLong) = some false
  ki_NoText_TooLarge : PySem.W.kitOne K (.ref cl_NoText) (.ref cl_TooLarge) = some false
  ki_NoText_NoName : PySem.W.kitOne K (.ref cl_NoText) (.ref cl_NoName) = some false
  ki_NoText_OtherStage : PySem.W.kitOne K (.ref cl_NoText) (.ref cl_OtherStage) = some false
  ki_NoText_Shut : PySem.W.kitOne K (.ref cl_NoText) (.ref cl_Shut) = some false
  ki_NoText_WrongKind : PySem.W.kitOne K (.ref cl_NoText) (.ref cl_WrongKind) = some false
  ki_NoText_NoPiece : PySem.W.kitOne K (.ref cl_NoText) (.ref cl_NoPiece) = some false
  ki_NoText_NoGap : PySem.W.kitOne K (.ref cl_NoText) (.ref cl_NoGap) = some false
  ki_NoText_Unlike : PySem.W.kitOne K (.ref cl_NoText) (.ref cl_Unlike) = some false
  ki_NoText_GapLeft : PySem.W.kitOne K (.ref cl_NoText) (.ref cl_GapLeft) = some false
  ki_NoText_NoRub : PySem.W.kitOne K (.ref cl_NoText) (.ref cl_NoRub) = some false
  xc_NoMaking : XCl K cl_NoMaking
  em_NoMaking : PySem.W.exmOne K (.ref cl_NoMaking) (.ref cl_GapError) = some true
  kv_NoMaking : PySem.W.kitOne K (.ref cl_NoMaking) (.type "ValueError") = some true
  ki_NoMaking_GapError : PySem.W.kitOne K (.ref cl_NoMaking) (.ref cl_GapError) = some true
  ki_NoMaking_NoPlace : PySem.W.kitOne K (.ref cl_NoMaking) (.ref cl_NoPlace) = some false
  ki_NoMaking_NoText : PySem.W.kitOne K (.ref cl_NoMaking) (.ref cl_NoText) = some false
  ki_NoMaking_NoMaking : PySem.W.kitOne K (.ref cl_NoMaking) (.ref cl_NoMaking) = some true
  ki_NoMaking_NoRow : PySem.W.kitOne K (.ref cl_NoMaking) (.ref cl_NoRow) = some false
  ki_NoMaking_TooGreat : PySem.W.kitOne K (.ref cl_NoMaking) (.ref cl_TooGreat) = some false
  ki_NoMaking_TooLong : PySem.W.kitOne K (.ref cl_NoMaking) (.ref cl_TooLong) = some false
  ki_NoMaking_TooLarge : PySem.W.kitOne K (.ref cl_NoMaking) (.ref cl_TooLarge) = some false
  ki_NoMaking_NoName : PySem.W.kitOne K (.ref cl_NoMaking) (.ref cl_NoName) = some false
  ki_NoMaking_OtherStage : PySem.W.kitOne K (.ref cl_NoMaking) (.ref cl_OtherStage) = some false
  ki_NoMaking_Shut : PySem.W.kitOne K (.ref cl_NoMaking) (.ref cl_Shut) = some false
  ki_NoMaking_WrongKind : PySem.W.kitOne K (.ref cl_NoMaking) (.ref cl_WrongKind) = some false
  ki_NoMaking_NoPiece : PySem.W.kitOne K (.ref cl_NoMaking) (.ref cl_NoPiece) = some false
  ki_NoMaking_NoGap : PySem.W.kitOne K (.ref cl_NoMaking) (.ref cl_NoGap) = some false
  ki_NoMaking_Unlike : PySem.W.kitOne K (.ref cl_NoMaking) (.ref cl_Unlike) = some false
  ki_NoMaking_GapLeft : PySem.W.kitOne K (.ref cl_NoMaking) (.ref cl_GapLeft) = some false
  ki_NoMaking_NoRub : PySem.W.kitOne K (.ref cl_NoMaking) (.ref cl_NoRub) = some false
  xc_NoRow : XCl K cl_NoRow
  em_NoRow : PySem.W.exmOne K (.ref cl_NoRow) (.ref cl_GapError) = some true
  kv_NoRow : PySem.W.kitOne K (.ref cl_NoRow) (.type "ValueError") = some true
  ki_NoRow_GapError : PySem.W.kitOne K (.ref cl_NoRow) (.ref cl_GapError) = some true
  ki_NoRow_NoPlace : PySem.W.kitOne K (.ref cl_NoRow) (.ref cl_NoPlace) = some false
  ki_NoRow_NoText : PySem.W.kitOne K (.ref cl_NoRow) (.ref cl_NoText) = some false
  ki_NoRow_NoMaking : PySem.W.kitOne K (.ref cl_NoRow) (.ref cl_NoMaking) = some false
  ki_NoRow_NoRow : PySem.W.kitOne K (.ref cl_NoRow) (.ref cl_NoRow) = some true
  ki_NoRow_TooGreat : PySem.W.kitOne K (.ref cl_NoRow) (.ref cl_TooGreat) = some false
  ki_NoRow_TooLong : PySem.W.kitOne K (.ref cl_NoRow) (.ref cl_TooLong) = some false
  ki_NoRow_TooLarge : PySem.W.kitOne K (.ref cl_NoRow) (.ref cl_TooLarge) = some false
  ki_NoRow_NoName : PySem.W.kitOne K (.ref cl_NoRow) (.ref cl_NoName) = some false
  ki_NoRow_OtherStage : PySem.W.kitOne K (.ref cl_NoRow) (.ref cl_OtherStage) = some false
  ki_NoRow_Shut : PySem.W.kitOne K (.ref cl_NoRow) (.ref cl_Shut) = some false
  ki_NoRow_WrongKind : PySem.W.kitOne K (.ref cl_NoRow) (.ref cl_WrongKind) = some false
  ki_NoRow_NoPiece : PySem.W.kitOne K (.ref cl_NoRow) (.ref cl_NoPiece) = some false
  ki_NoRow_NoGap : PySem.W.kitOne K (.ref cl_NoRow) (.ref cl_NoGap) = some false
  ki_NoRow_Unlike : PySem.W.kitOne K (.ref cl_NoRow) (.ref cl_Unlike) = some false
  ki_NoRow_GapLeft : PySem.W.kitOne K (.ref cl_NoRow) (.ref cl_GapLeft) = some false
  ki_NoRow_NoRub : PySem.W.kitOne K (.ref cl_NoRow) (.ref cl_NoRub) = some false
  xc_TooGreat : XCl K cl_TooGreat
  em_TooGreat : PySem.W.exmOne K (.ref cl_TooGreat) (.ref cl_GapError) = some true
  kv_TooGreat : PySem.W.kitOne K (.ref cl_TooGreat) (.type "ValueError") = some true
  ki_TooGreat_GapError : PySem.W.kitOne K (.ref cl_TooGreat) (.ref cl_GapError) = some true
  ki_TooGreat_NoPlace : PySem.W.kitOne K (.ref cl_TooGreat) (.ref cl_NoPlace) = some false
  ki_TooGreat_NoText : PySem.W.kitOne K (.ref cl_TooGreat) (.ref cl_NoText) = some false
  ki_TooGreat_NoMaking : PySem.W.kitOne K (.ref cl_TooGreat) (.ref cl_NoMaking) = some false
  ki_TooGreat_NoRow : PySem.W.kitOne K (.ref cl_TooGreat) (.ref cl_NoRow) = some false
  ki_TooGreat_TooGreat : PySem.W.kitOne K (.ref cl_TooGreat) (.ref cl_TooGreat) = some true
  ki_TooGreat_TooLong : PySem.W.kitOne K (.ref cl_TooGreat) (.ref cl_TooLong) = some false
  ki_TooGreat_TooLarge : PySem.W.kitOne K (.ref cl_TooGreat) (.ref cl_TooLarge) = some false
  ki_TooGreat_NoName : PySem.W.kitOne K (.ref cl_TooGreat) (.ref cl_NoName) = some false
  ki_TooGreat_OtherStage : PySem.W.kitOne K (.ref cl_TooGreat) (.ref cl_OtherStage) = some false
  ki_TooGreat_Shut : PySem.W.kitOne K (.ref cl_TooGreat) (.ref cl_Shut) = some false
  ki_TooGreat_WrongKind : PySem.W.kitOne K (.ref cl_TooGreat) (.ref cl_WrongKind) = some false
  ki_TooGreat_NoPiece : PySem.W.kitOne K (.ref cl_TooGreat) (.ref cl_NoPiece) = some false
  ki_TooGreat_NoGap : PySem.W.kitOne K (.ref cl_TooGreat) (.ref cl_NoGap) = some false
  ki_TooGreat_Unlike : PySem.W.kitOne K (.ref cl_TooGreat) (.ref cl_Unlike) = some false
  ki_TooGreat_GapLeft : PySem.W.kitOne K (.ref cl_TooGreat) (.ref cl_GapLeft) = some false
  ki_TooGreat_NoRub : PySem.W.kitOne K (.ref cl_TooGreat) (.ref cl_NoRub) = some false
  xc_TooLong : XCl K cl_TooLong
  em_TooLong : PySem.W.exmOne K (.ref cl_TooLong) (.ref cl_GapError) = some true
  kv_TooLong : PySem.W.kitOne K (.ref cl_TooLong) (.type "ValueError") = some true
  ki_TooLong_GapError : PySem.W.kitOne K (.ref cl_TooLong) (.ref cl_GapError) = some true
  ki_TooLong_NoPlace : PySem.W.kitOne K (.ref cl_TooLong) (.ref cl_NoPlace) = some false
  ki_TooLong_NoText : PySem.W.kitOne K (.ref cl_TooLong) (.ref cl_NoText) = some false
  ki_TooLong_NoMaking : PySem.W.kitOne K (.ref cl_TooLong) (.ref cl_NoMaking) = some false
  ki_TooLong_NoRow : PySem.W.kitOne K (.ref cl_TooLong) (.ref cl_NoRow) = some false
  ki_TooLong_TooGreat : PySem.W.kitOne K (.ref cl_TooLong) (.ref cl_TooGreat) = some false
  ki_TooLong_TooLong : PySem.W.kitOne K (.ref cl_TooLong) (.ref cl_TooLong) = some true
  ki_TooLong_TooLarge : PySem.W.kitOne K (.ref cl_TooLong) (.ref cl_TooLarge) = some false
  ki_TooLong_NoName : PySem.W.kitOne K (.ref cl_TooLong) (.ref cl_NoName) = some false
  ki_TooLong_OtherStage : PySem.W.kitOne K (.ref cl_TooLong) (.ref cl_OtherStage) = some false
  ki_TooLong_Shut : PySem.W.kitOne K (.ref cl_TooLong) (.ref cl_Shut) = some false
  ki_TooLong_WrongKind : PySem.W.kitOne K (.ref cl_TooLong) (.ref cl_WrongKind) = some false
  ki_TooLong_NoPiece : PySem.W.kitOne K (.ref cl_TooLong) (.ref cl_NoPiece) = some false
  ki_TooLong_NoGap : PySem.W.kitOne K (.ref cl_TooLong) (.ref cl_NoGap) = some false
  ki_TooLong_Unlike : PySem.W.kitOne K (.ref cl_TooLong) (.ref cl_Unlike) = some false
  ki_TooLong_GapLeft : PySem.W.kitOne K (.ref cl_TooLong) (.ref cl_GapLeft) = some false
  ki_TooLong_NoRub : PySem.W.kitOne K (.ref cl_TooLong) (.ref cl_NoRub) = some false
  xc_TooLarge : XCl K cl_TooLarge
  em_TooLarge : PySem.W.exmOne K (.ref cl_TooLarge) (.ref cl_GapError) = some true
  kv_TooLarge : PySem.W.kitOne K (.ref cl_TooLarge) (.type "ValueError") = some true
  ki_TooLarge_GapError : PySem.W.kitOne K (.ref cl_TooLarge) (.ref cl_GapError) = some true
  ki_TooLarge_NoPlace : PySem.W.kitOne K (.ref cl_TooLarge) (.ref cl_NoPlace) = some false
  ki_TooLarge_NoText : PySem.W.kitOne K (.ref cl_TooLarge) (.ref cl_NoText) = some false
  ki_TooLarge_NoMaking : PySem.W.kitOne K (.ref cl_TooLarge) (.ref cl_NoMaking) = some false
  ki_TooLarge_NoRow : PySem.W.kitOne K (.ref cl_TooLarge) (.ref cl_NoRow) = some false
  ki_TooLarge_TooGreat : PySem.W.kitOne K (.ref cl_TooLarge) (.ref cl_TooGreat) = some false
  ki_TooLarge_TooLong : PySem.W.kitOne K (.ref cl_TooLarge) (.ref cl_TooLong) = some false
  ki_TooLarge_TooLarge : PySem.W.kitOne K (.ref cl_TooLarge) (.ref cl_TooLarge) = some true
  ki_TooLarge_NoName : PySem.W.kitOne K (.ref cl_TooLarge) (.ref cl_NoName) = some false
  ki_TooLarge_OtherStage : PySem.W.kitOne K (.ref cl_TooLarge) (.ref cl_OtherStage) = some false
  ki_TooLarge_Shut : PySem.W.kitOne K (.ref cl_TooLarge) (.ref cl_Shut) = some false
  ki_TooLarge_WrongKind : PySem.W.kitOne K (.ref cl_TooLarge) (.ref cl_WrongKind) = some false
  ki_TooLarge_NoPiece : PySem.W.kitOne K (.ref cl_TooLarge) (.ref cl_NoPiece) = some false
  ki_TooLarge_NoGap : PySem.W.kitOne K (.ref cl_TooLarge) (.ref cl_NoGap) = some false
  ki_TooLarge_Unlike : PySem.W.kitOne K (.ref cl_TooLarge) (.ref cl_Unlike) = some false
  ki_TooLarge_GapLeft : PySem.W.kitOne K (.ref cl_TooLarge) (.ref cl_GapLeft) = some false
  ki_TooLarge_NoRub : PySem.W.kitOne K (.ref cl_TooLarge) (.ref cl_NoRub) = some false
  xc_NoName : XCl K cl_NoName
  em_NoName : PySem.W.exmOne K (.ref cl_NoName) (.ref cl_GapError) = some true
  kv_NoName : PySem.W.kitOne K (.ref cl_NoName) (.type "ValueError") = some true
  ki_NoName_GapError : PySem.W.kitOne K (.ref cl_NoName) (.ref cl_GapError) = some true
  ki_NoName_NoPlace : PySem.W.kitOne K (.ref cl_NoName) (.ref cl_NoPlace) = some false
  ki_NoName_NoText : PySem.W.kitOne K (.ref cl_NoName) (.ref cl_NoText) = some false
  ki_NoName_NoMaking : PySem.W.kitOne K (.ref cl_NoName) (.ref cl_NoMaking) = some false
  ki_NoName_NoRow : PySem.W.kitOne K (.ref cl_NoName) (.ref cl_NoRow) = some false
  ki_NoName_TooGreat : PySem.W.kitOne K (.ref cl_NoName) (.ref cl_TooGreat) = some false
  ki_NoName_TooLong : PySem.W.kitOne K (.ref cl_NoName) (.ref cl_TooLong) = some false
  ki_NoName_TooLarge : PySem.W.kitOne K (.ref cl_NoName) (.ref cl_TooLarge) = some false
  ki_NoName_NoName : PySem.W.kitOne K (.ref cl_NoName) (.ref cl_NoName) = some true
  ki_NoName_OtherStage : PySem.W.kitOne K (.ref cl_NoName) (.ref cl_OtherStage) = some false
  ki_NoName_Shut : PySem.W.kitOne K (.ref cl_NoName) (.ref cl_Shut) = some false
  ki_NoName_WrongKind : PySem.W.kitOne K (.ref cl_NoName) (.ref cl_WrongKind) = some false
  ki_NoName_NoPiece : PySem.W.kitOne K (.ref cl_NoName) (.ref cl_NoPiece) = some false
  ki_NoName_NoGap : PySem.W.kitOne K (.ref cl_NoName) (.ref cl_NoGap) = some false
  ki_NoName_Unlike : PySem.W.kitOne K (.ref cl_NoName) (.ref cl_Unlike) = some false
  ki_NoName_GapLeft : PySem.W.kitOne K (.ref cl_NoName) (.ref cl_GapLeft) = some false
  ki_NoName_NoRub : PySem.W.kitOne K (.ref cl_NoName) (.ref cl_NoRub) = some false
  xc_OtherStage : XCl K cl_OtherStage
  em_OtherStage : PySem.W.exmOne K (.ref cl_OtherStage) (.ref cl_GapError) = some true
  kv_OtherStage : PySem.W.kitOne K (.ref cl_OtherStage) (.type "ValueError") = some true
  ki_OtherStage_GapError : PySem.W.kitOne K (.ref cl_OtherStage) (.ref cl_GapError) = some true
  ki_OtherStage_NoPlace : PySem.W.kitOne K (.ref cl_OtherStage) (.ref cl_NoPlace) = some false
  ki_OtherStage_NoText : PySem.W.kitOne K (.ref cl_OtherStage) (.ref cl_NoText) = some false
  ki_OtherStage_NoMaking : PySem.W.kitOne K (.ref cl_OtherStage) (.ref cl_NoMaking) = some false
  ki_OtherStage_NoRow : PySem.W.kitOne K (.ref cl_OtherStage) (.ref cl_NoRow) = some false
  ki_OtherStage_TooGreat : PySem.W.kitOne K (.ref cl_OtherStage) (.ref cl_TooGreat) = some false
  ki_OtherStage_TooLong : PySem.W.kitOne K (.ref cl_OtherStage) (.ref cl_TooLong) = some false
  ki_OtherStage_TooLarge : PySem.W.kitOne K (.ref cl_OtherStage) (.ref cl_TooLarge) = some false
  ki_OtherStage_NoName : PySem.W.kitOne K (.ref cl_OtherStage) (.ref cl_NoName) = some false
  ki_OtherStage_OtherStage : PySem.W.kitOne K (.ref cl_OtherStage) (.ref cl_OtherStage) = some true
  ki_OtherStage_Shut : PySem.W.kitOne K (.ref cl_OtherStage) (.ref cl_Shut) = some false
  ki_OtherStage_WrongKind : PySem.W.kitOne K (.ref cl_OtherStage) (.ref cl_WrongKind) = some false
  ki_OtherStage_NoPiece : PySem.W.kitOne K (.ref cl_OtherStage) (.ref cl_NoPiece) = some false
  ki_OtherStage_NoGap : PySem.W.kitOne K (.ref cl_OtherStage) (.ref cl_NoGap) = some false
  ki_OtherStage_Unlike : PySem.W.kitOne K (.ref cl_OtherStage) (.ref cl_Unlike) = some false
  ki_OtherStage_GapLeft : PySem.W.kitOne K (.ref cl_OtherStage) (.ref cl_GapLeft) = some false
  ki_OtherStage_NoRub : PySem.W.kitOne K (.ref cl_OtherStage) (.ref cl_NoRub) = some false
  xc_Shut : XCl K cl_Shut
  em_Shut : PySem.W.exmOne K (.ref cl_Shut) (.ref cl_GapError) = some true
  kv_Shut : PySem.W.kitOne K (.ref cl_Shut) (.type "ValueError") = some true
  ki_Shut_GapError : PySem.W.kitOne K (.ref cl_Shut) (.ref cl_GapError) = some true
  ki_Shut_NoPlace : PySem.W.kitOne K (.ref cl_Shut) (.ref cl_NoPlace) = some false
  ki_Shut_NoText : PySem.W.kitOne K (.ref cl_Shut) (.ref cl_NoText) = some false
  ki_Shut_NoMaking : PySem.W.kitOne K (.ref cl_Shut) (.ref cl_NoMaking) = some false
  ki_Shut_NoRow : PySem.W.kitOne K (.ref cl_Shut) (.ref cl_NoRow) = some false
  ki_Shut_TooGreat : PySem.W.kitOne K (.ref cl_Shut) (.ref cl_TooGreat) = some false
  ki_Shut_TooLong : PySem.W.kitOne K (.ref cl_Shut) (.ref cl_TooLong) = some false
  ki_Shut_TooLarge : PySem.W.kitOne K (.ref cl_Shut) (.ref cl_TooLarge) = some false
  ki_Shut_NoName : PySem.W.kitOne K (.ref cl_Shut) (.ref cl_NoName) = some false
  ki_Shut_OtherStage : PySem.W.kitOne K (.ref cl_Shut) (.ref cl_OtherStage) = some false
  ki_Shut_Shut : PySem.W.kitOne K (.ref cl_Shut) (.ref cl_Shut) = some true
  ki_Shut_WrongKind : PySem.W.kitOne K (.ref cl_Shut) (.ref cl_WrongKind) = some false
  ki_Shut_NoPiece : PySem.W.kitOne K (.ref cl_Shut) (.ref cl_NoPiece) = some false
  ki_Shut_NoGap : PySem.W.kitOne K (.ref cl_Shut) (.ref cl_NoGap) = some false
  ki_Shut_Unlike : PySem.W.kitOne K (.ref cl_Shut) (.ref cl_Unlike) = some false
  ki_Shut_GapLeft : PySem.W.kitOne K (.ref cl_Shut) (.ref cl_GapLeft) = some false
  ki_Shut_NoRub : PySem.W.kitOne K (.ref cl_Shut) (.ref cl_NoRub) = some false
  xc_WrongKind : XCl K cl_WrongKind
  em_WrongKind : PySem.W.exmOne K (.ref cl_WrongKind) (.ref cl_GapError) = some true
  kv_WrongKind : PySem.W.kitOne K (.ref cl_WrongKind) (.type "ValueError") = some true
  ki_WrongKind_GapError : PySem.W.kitOne K (.ref cl_WrongKind) (.ref cl_GapError) = some true
  ki_WrongKind_NoPlace : PySem.W.kitOne K (.ref cl_WrongKind) (.ref cl_NoPlace) = some false
  ki_WrongKind_NoText : PySem.W.kitOne K (.ref cl_WrongKind) (.ref cl_NoText) = some false
  ki_WrongKind_NoMaking : PySem.W.kitOne K (.ref cl_WrongKind) (.ref cl_NoMaking) = some false
  ki_WrongKind_NoRow : PySem.W.kitOne K (.ref cl_WrongKind) (.ref cl_NoRow) = some false
  ki_WrongKind_TooGreat : PySem.W.kitOne K (.ref cl_WrongKind) (.ref cl_TooGreat) = some false
  ki_WrongKind_TooLong : PySem.W.kitOne K (.ref cl_WrongKind) (.ref cl_TooLong) = some false
  ki_WrongKind_TooLarge : PySem.W.kitOne K (.ref cl_WrongKind) (.ref cl_TooLarge) = some false
  ki_WrongKind_NoName : PySem.W.kitOne K (.ref cl_WrongKind) (.ref cl_NoName) = some false
  ki_WrongKind_OtherStage : PySem.W.kitOne K (.ref cl_WrongKind) (.ref cl_OtherStage) = some false
  ki_WrongKind_Shut : PySem.W.kitOne K (.ref cl_WrongKind) (.ref cl_Shut) = some false
  ki_WrongKind_WrongKind : PySem.W.kitOne K (.ref cl_WrongKind) (.ref cl_WrongKind) = some true
  ki_WrongKind_NoPiece : PySem.W.kitOne K (.ref cl_WrongKind) (.ref cl_NoPiece) = some false
  ki_WrongKind_NoGap : PySem.W.kitOne K (.ref cl_WrongKind) (.ref cl_NoGap) = some false
  ki_WrongKind_Unlike : PySem.W.kitOne K (.ref cl_WrongKind) (.ref cl_Unlike) = some false
  ki_WrongKind_GapLeft : PySem.W.kitOne K (.ref cl_WrongKind) (.ref cl_GapLeft) = some false
  ki_WrongKind_NoRub : PySem.W.kitOne K (.ref cl_WrongKind) (.ref cl_NoRub) = some false
  xc_NoPiece : XCl K cl_NoPiece
  em_NoPiece : PySem.W.exmOne K (.ref cl_NoPiece) (.ref cl_GapError) = some true
  kv_NoPiece : PySem.W.kitOne K (.ref cl_NoPiece) (.type "ValueError") = some true
  ki_NoPiece_GapError : PySem.W.kitOne K (.ref cl_NoPiece) (.ref cl_GapError) = some true
  ki_NoPiece_NoPlace : PySem.W.kitOne K (.ref cl_NoPiece) (.ref cl_NoPlace) = some false
  ki_NoPiece_NoText : PySem.W.kitOne K (.ref cl_NoPiece) (.ref cl_NoText) = some false
  ki_NoPiece_NoMaking : PySem.W.kitOne K (.ref cl_NoPiece) (.ref cl_NoMaking) = some false
  ki_NoPiece_NoRow : PySem.W.kitOne K (.ref cl_NoPiece) (.ref cl_NoRow) = some false
  ki_NoPiece_TooGreat : PySem.W.kitOne K (.ref cl_NoPiece) (.ref cl_TooGreat) = some false
  ki_NoPiece_TooLong : PySem.W.kitOne K (.ref cl_NoPiece) (.ref cl_TooLong) = some false
  ki_NoPiece_TooLarge : PySem.W.kitOne K (.ref cl_NoPiece) (.ref cl_TooLarge) = some false
  ki_NoPiece_NoName : PySem.W.kitOne K (.ref cl_NoPiece) (.ref cl_NoName) = some false
  ki_NoPiece_OtherStage : PySem.W.kitOne K (.ref cl_NoPiece) (.ref cl_OtherStage) = some false
  ki_NoPiece_Shut : PySem.W.kitOne K (.ref cl_NoPiece) (.ref cl_Shut) = some false
  ki_NoPiece_WrongKind : PySem.W.kitOne K (.ref cl_NoPiece) (.ref cl_WrongKind) = some false
  ki_NoPiece_NoPiece : PySem.W.kitOne K (.ref cl_NoPiece) (.ref cl_NoPiece) = some true
  ki_NoPiece_NoGap : PySem.W.kitOne K (.ref cl_NoPiece) (.ref cl_NoGap) = some false
  ki_NoPiece_Unlike : PySem.W.kitOne K (.ref cl_NoPiece) (.ref cl_Unlike) = some false
  ki_NoPiece_GapLeft : PySem.W.kitOne K (.ref cl_NoPiece) (.ref cl_GapLeft) = some false
  ki_NoPiece_NoRub : PySem.W.kitOne K (.ref cl_NoPiece) (.ref cl_NoRub) = some false
  xc_NoGap : XCl K cl_NoGap
  em_NoGap : PySem.W.exmOne K (.ref cl_NoGap) (.ref cl_GapError) = some true
  kv_NoGap : PySem.W.kitOne K (.ref cl_NoGap) (.type "ValueError") = some true
  ki_NoGap_GapError : PySem.W.kitOne K (.ref cl_NoGap) (.ref cl_GapError) = some true
  ki_NoGap_NoPlace : PySem.W.kitOne K (.ref cl_NoGap) (.ref cl_NoPlace) = some false
  ki_NoGap_NoText : PySem.W.kitOne K (.ref cl_NoGap) (.ref cl_NoText) = some false
  ki_NoGap_NoMaking : PySem.W.kitOne K (.ref cl_NoGap) (.ref cl_NoMaking) = some false
  ki_NoGap_NoRow : PySem.W.kitOne K (.ref cl_NoGap) (.ref cl_NoRow) = some false
  ki_NoGap_TooGreat : PySem.W.kitOne K (.ref cl_NoGap) (.ref cl_TooGreat) = some false
  ki_NoGap_TooLong : PySem.W.kitOne K (.ref cl_NoGap) (.ref cl_TooLong) = some false
  ki_NoGap_TooLarge : PySem.W.kitOne K (.ref cl_NoGap) (.ref cl_TooLarge) = some false
  ki_NoGap_NoName : PySem.W.kitOne K (.ref cl_NoGap) (.ref cl_NoName) = some false
  ki_NoGap_OtherStage : PySem.W.kitOne K (.ref cl_NoGap) (.ref cl_OtherStage) = some false
  ki_NoGap_Shut : PySem.W.kitOne K (.ref cl_NoGap) (.ref cl_Shut) = some false
  ki_NoGap_WrongKind : PySem.W.kitOne K (.ref cl_NoGap) (.ref cl_WrongKind) = some false
  ki_NoGap_NoPiece : PySem.W.kitOne K (.ref cl_NoGap) (.ref cl_NoPiece) = some false
  ki_NoGap_NoGap : PySem.W.kitOne K (.ref cl_NoGap) (.ref cl_NoGap) = some true
  ki_NoGap_Unlike : PySem.W.kitOne K (.ref cl_NoGap) (.ref cl_Unlike) = some false
  ki_NoGap_GapLeft : PySem.W.kitOne K (.ref cl_NoGap) (.ref cl_GapLeft) = some false
  ki_NoGap_NoRub : PySem.W.kitOne K (.ref cl_NoGap) (.ref cl_NoRub) = some false
  xc_Unlike : XCl K cl_Unlike
  em_Unlike : PySem.W.exmOne K (.ref cl_Unlike) (.ref cl_GapError) = some true
  kv_Unlike : PySem.W.kitOne K (.ref cl_Unlike) (.type "ValueError") = some true
  ki_Unlike_GapError : PySem.W.kitOne K (.ref cl_Unlike) (.ref cl_GapError) = some true
  ki_Unlike_NoPlace : PySem.W.kitOne K (.ref cl_Unlike) (.ref cl_NoPlace) = some false
  ki_Unlike_NoText : PySem.W.kitOne K (.ref cl_Unlike) (.ref cl_NoText) = some false
  ki_Unlike_NoMaking : PySem.W.kitOne K (.ref cl_Unlike) (.ref cl_NoMaking) = some false
  ki_Unlike_NoRow : PySem.W.kitOne K (.ref cl_Unlike) (.ref cl_NoRow) = some false
  ki_Unlike_TooGreat : PySem.W.kitOne K (.ref cl_Unlike) (.ref cl_TooGreat) = some false
  ki_Unlike_TooLong : PySem.W.kitOne K (.ref cl_Unlike) (.ref cl_TooLong) = some false
  ki_Unlike_TooLarge : PySem.W.kitOne K (.ref cl_Unlike) (.ref cl_TooLarge) = some false
  ki_Unlike_NoName : PySem.W.kitOne K (.ref cl_Unlike) (.ref cl_NoName) = some false
  ki_Unlike_OtherStage : PySem.W.kitOne K (.ref cl_Unlike) (.ref cl_OtherStage) = some false
  ki_Unlike_Shut : PySem.W.kitOne K (.ref cl_Unlike) (.ref cl_Shut) = some false
  ki_Unlike_WrongKind : PySem.W.kitOne K (.ref cl_Unlike) (.ref cl_WrongKind) = some false
  ki_Unlike_NoPiece : PySem.W.kitOne K (.ref cl_Unlike) (.ref cl_NoPiece) = some false
  ki_Unlike_NoGap : PySem.W.kitOne K (.ref cl_Unlike) (.ref cl_NoGap) = some false
  ki_Unlike_Unlike : PySem.W.kitOne K (.ref cl_Unlike) (.ref cl_Unlike) = some true
  ki_Unlike_GapLeft : PySem.W.kitOne K (.ref cl_Unlike) (.ref cl_GapLeft) = some false
  ki_Unlike_NoRub : PySem.W.kitOne K (.ref cl_Unlike) (.ref cl_NoRub) = some false
  xc_GapLeft : XCl K cl_GapLeft
  em_GapLeft : PySem.W.exmOne K (.ref cl_GapLeft) (.ref cl_GapError) = some true
  kv_GapLeft : PySem.W.kitOne K (.ref cl_GapLeft) (.type "ValueError") = some true
  ki_GapLeft_GapError : PySem.W.kitOne K (.ref cl_GapLeft) (.ref cl_GapError) = some true
  ki_GapLeft_NoPlace : PySem.W.kitOne K (.ref cl_GapLeft) (.ref cl_NoPlace) = some false
  ki_GapLeft_NoText : PySem.W.kitOne K (.ref cl_GapLeft) (.ref cl_NoText) = some false
  ki_GapLeft_NoMaking : PySem.W.kitOne K (.ref cl_GapLeft) (.ref cl_NoMaking) = some false
  ki_GapLeft_NoRow : PySem.W.kitOne K (.ref cl_GapLeft) (.ref cl_NoRow) = some false
  ki_GapLeft_TooGreat : PySem.W.kitOne K (.ref cl_GapLeft) (.ref cl_TooGreat) = some false
  ki_GapLeft_TooLong : PySem.W.kitOne K (.ref cl_GapLeft) (.ref cl_TooLong) = some false
  ki_GapLeft_TooLarge : PySem.W.kitOne K (.ref cl_GapLeft) (.ref cl_TooLarge) = some false
  ki_GapLeft_NoName : PySem.W.kitOne K (.ref cl_GapLeft) (.ref cl_NoName) = some false
  ki_GapLeft_OtherStage : PySem.W.kitOne K (.ref cl_GapLeft) (.ref cl_OtherStage) = some false
  ki_GapLeft_Shut : PySem.W.kitOne K (.ref cl_GapLeft) (.ref cl_Shut) = some false
  ki_GapLeft_WrongKind : PySem.W.kitOne K (.ref cl_GapLeft) (.ref cl_WrongKind) = some false
  ki_GapLeft_NoPiece : PySem.W.kitOne K (.ref cl_GapLeft) (.ref cl_NoPiece) = some false
  ki_GapLeft_NoGap : PySem.W.kitOne K (.ref cl_GapLeft) (.ref cl_NoGap) = some false
  ki_GapLeft_Unlike : PySem.W.kitOne K (.ref cl_GapLeft) (.ref cl_Unlike) = some false
  ki_GapLeft_GapLeft : PySem.W.kitOne K (.ref cl_GapLeft) (.ref cl_GapLeft) = some true
  ki_GapLeft_NoRub : PySem.W.kitOne K (.ref cl_GapLeft) (.ref cl_NoRub) = some false
  xc_NoRub : XCl K cl_NoRub
  em_NoRub : PySem.W.exmOne K (.ref cl_NoRub) (.ref cl_GapError) = some true
  kv_NoRub : PySem.W.kitOne K (.ref cl_NoRub) (.type "ValueError") = some true
  ki_NoRub_GapError : PySem.W.kitOne K (.ref cl_NoRub) (.ref cl_GapError) = some true
  ki_NoRub_NoPlace : PySem.W.kitOne K (.ref cl_NoRub) (.ref cl_NoPlace) = some false
  ki_NoRub_NoText : PySem.W.kitOne K (.ref cl_NoRub) (.ref cl_NoText) = some false
  ki_NoRub_NoMaking : PySem.W.kitOne K (.ref cl_NoRub) (.ref cl_NoMaking) = some false
  ki_NoRub_NoRow : PySem.W.kitOne K (.ref cl_NoRub) (.ref cl_NoRow) = some false
  ki_NoRub_TooGreat : PySem.W.kitOne K (.ref cl_NoRub) (.ref cl_TooGreat) = some false
  ki_NoRub_TooLong : PySem.W.kitOne K (.ref cl_NoRub) (.ref cl_TooLong) = some false
  ki_NoRub_TooLarge : PySem.W.kitOne K (.ref cl_NoRub) (.ref cl_TooLarge) = some false
  ki_NoRub_NoName : PySem.W.kitOne K (.ref cl_NoRub) (.ref cl_NoName) = some false
  ki_NoRub_OtherStage : PySem.W.kitOne K (.ref cl_NoRub) (.ref cl_OtherStage) = some false
  ki_NoRub_Shut : PySem.W.kitOne K (.ref cl_NoRub) (.ref cl_Shut) = some false
  ki_NoRub_WrongKind : PySem.W.kitOne K (.ref cl_NoRub) (.ref cl_WrongKind) = some false
  ki_NoRub_NoPiece : PySem.W.kitOne K (.ref cl_NoRub) (.ref cl_NoPiece) = some false
  ki_NoRub_NoGap : PySem.W.kitOne K (.ref cl_NoRub) (.ref cl_NoGap) = some false
  ki_NoRub_Unlike : PySem.W.kitOne K (.ref cl_NoRub) (.ref cl_Unlike) = some false
  ki_NoRub_GapLeft : PySem.W.kitOne K (.ref cl_NoRub) (.ref cl_GapLeft) = some false
  ki_NoRub_NoRub : PySem.W.kitOne K (.ref cl_NoRub) (.ref cl_NoRub) = some true
theorem lh0 : hs (Str.ofString "gapwright.errors") = 525983758208888638707093040858624442418199966213341467419352134366064636065193604649985836712 := by decide +kernel
theorem ls0 : SeqAt.shaped (py (.str (Str.ofString "gapwright.errors"))) = true := sh_str (by decide +kernel)
theorem ll0 : (Str.ofString "gapwright.errors").length = 16 := by decide +kernel
theorem la0 : atI (Str.ofString "gapwright.errors").cps.toList 0 = some 103 := by decide +kernel
theorem lh1 : hs (Str.ofString "law_gapwright_k18_errors_as_told") = 3106228103499840870701869095634944724592096526322578084600652954465451002066208021001991682121716412887160561194224139623935838638324342651292383144309210725627390352566029800595620550216964 := by decide +kernel
theorem ls1 : SeqAt.shaped (py (.str (Str.ofString "law_gapwright_k18_errors_as_told"))) = true := sh_str (by decide +kernel)
theorem ll1 : (Str.ofString "law_gapwright_k18_errors_as_told").length = 32 := by decide +kernel
theorem la1 : atI (Str.ofString "law_gapwright_k18_errors_as_told").cps.toList 0 = some 108 := by decide +kernel
theorem lh2 : hs (Str.ofString "cells") = 154069745388342822320013848 := by decide +kernel
theorem ls2 : SeqAt.shaped (py (.str (Str.ofString "cells"))) = true := sh_str (by decide +kernel)
theorem ll2 : (Str.ofString "cells").length = 5 := by decide +kernel
theorem la2 : atI (Str.ofString "cells").cps.toList 0 = some 99 := by decide +kernel
theorem lh3 : hs (Str.ofString "at") = 109183191 := by decide +kernel
theorem ls3 : SeqAt.shaped (py (.str (Str.ofString "at"))) = true := sh_str (by decide +kernel)
theorem ll3 : (Str.ofString "at").length = 2 := by decide +kernel
theorem la3 : atI (Str.ofString "at").cps.toList 0 = some 97 := by decide +kernel
theorem lh4 : hs (Str.ofString "digits") = 173367621897547001999819618255498 := by decide +kernel
theorem ls4 : SeqAt.shaped (py (.str (Str.ofString "digits"))) = true := sh_str (by decide +kernel)
theorem ll4 : (Str.ofString "digits").length = 6 := by decide +kernel
theorem la4 : atI (Str.ofString "digits").cps.toList 0 = some 100 := by decide +kernel
theorem lh5 : hs (Str.ofString "turn") = 161798309732740366797 := by decide +kernel
theorem ls5 : SeqAt.shaped (py (.str (Str.ofString "turn"))) = true := sh_str (by decide +kernel)
theorem ll5 : (Str.ofString "turn").length = 4 := by decide +kernel
theorem la5 : atI (Str.ofString "turn").cps.toList 0 = some 116 := by decide +kernel
theorem lh6 : hs (Str.ofString "a number of too many figures") = 1812657431710100257535197775084872641127795584623002124039397023036038233800866136379059623439205239297170947345855526906467530921507148909411744467380250705267526263 := by decide +kernel
theorem ls6 : SeqAt.shaped (py (.str (Str.ofString "a number of too many figures"))) = true := sh_str (by decide +kernel)
theorem ll6 : (Str.ofString "a number of too many figures").length = 28 := by decide +kernel
theorem la6 : atI (Str.ofString "a number of too many figures").cps.toList 0 = some 97 := by decide +kernel
theorem lh7 : hs (Str.ofString "more calls than may be begun") = 2034616729044435304327976319159067581770417643944966780105472344438045270987191669778917115732390751973686635817377272364469594153997778930840843212861510898372971080 := by decide +kernel
theorem ls7 : SeqAt.shaped (py (.str (Str.ofString "more calls than may be begun"))) = true := sh_str (by decide +kernel)
theorem ll7 : (Str.ofString "more calls than may be begun").length = 28 := by decide +kernel
theorem la7 : atI (Str.ofString "more calls than may be begun").cps.toList 0 = some 109 := by decide +kernel
theorem lh8 : hs (Str.ofString "a piece that is too large or too deep") = 4793788975044012195583854453876453158748729001786567442368553524554596241729809973397655374088625736797244604599466663936793361516111499953396655195005638256598685885576954466812607902312084750569301122744325643325017415 := by decide +kernel
theorem ls8 : SeqAt.shaped (py (.str (Str.ofString "a piece that is too large or too deep"))) = true := sh_str (by decide +kernel)
theorem ll8 : (Str.ofString "a piece that is too large or too deep").length = 37 := by decide +kernel
theorem la8 : atI (Str.ofString "a piece that is too large or too deep").cps.toList 0 = some 97 := by decide +kernel
theorem lh9 : hs (Str.ofString "a name that is free") = 685413350866940123117897698829800281836108080430380330771228134590836325449092354784296554350846019244153898692 := by decide +kernel
theorem ls9 : SeqAt.shaped (py (.str (Str.ofString "a name that is free"))) = true := sh_str (by decide +kernel)
theorem ll9 : (Str.ofString "a name that is free").length = 19 := by decide +kernel
theorem la9 : atI (Str.ofString "a name that is free").cps.toList 0 = some 97 := by decide +kernel
theorem lh10 : hs (Str.ofString "a name that is bound at another stage") = 4793788975043933377517412693624561552243572860602200999268973392946328092808100948390744129503343629803519145211341822082044872011571659733142049475456846770141651822857214213239291168273148113126724829229190073779883398 := by decide +kernel
theorem ls10 : SeqAt.shaped (py (.str (Str.ofString "a name that is bound at another stage"))) = true := sh_str (by decide +kernel)
theorem ll10 : (Str.ofString "a name that is bound at another stage").length = 37 := by decide +kernel
theorem la10 : atI (Str.ofString "a name that is bound at another stage").cps.toList 0 = some 97 := by decide +kernel
theorem lh11 : hs (Str.ofString "a name that a whole shuts out") = 2019505209214834927925281072601380050191206149701388156688336122466314104703384294184353038430763729230716221759765141503667966329393255710513437042911130592620165446634143 := by decide +kernel
theorem ls11 : SeqAt.shaped (py (.str (Str.ofString "a name that a whole shuts out"))) = true := sh_str (by decide +kernel)
theorem ll11 : (Str.ofString "a name that a whole shuts out").length = 29 := by decide +kernel
theorem la11 : atI (Str.ofString "a name that a whole shuts out").cps.toList 0 = some 97 := by decide +kernel
theorem lh12 : hs (Str.ofString "a kind that can't stand there") = 2019505209214785122058525919614459789526451906358927350160178956078555179450238277053645222118920173837616466306721227693810751982953097033387760876048896055132186306808436 := by decide +kernel
theorem ls12 : SeqAt.shaped (py (.str (Str.ofString "a kind that can't stand there"))) = true := sh_str (by decide +kernel)
theorem ll12 : (Str.ofString "a kind that can't stand there").length = 29 := by decide +kernel
theorem la12 : atI (Str.ofString "a kind that can't stand there").cps.toList 0 = some 97 := by decide +kernel
theorem lh13 : hs (Str.ofString "no piece to which it belongs") = 2053113227857933792205895365591530809988325917973632109575134655313507241910936371313757308673469041689325584206384658889868043724122624511302340055423500476116699740 := by decide +kernel
theorem ls13 : SeqAt.shaped (py (.str (Str.ofString "no piece to which it belongs"))) = true := sh_str (by decide +kernel)
theorem ll13 : (Str.ofString "no piece to which it belongs").length = 28 := by decide +kernel
theorem la13 : atI (Str.ofString "no piece to which it belongs").cps.toList 0 = some 110 := by decide +kernel
theorem lh14 : hs (Str.ofString "no such gap") = 327051232598546386227511650840753907498015822950882671379285011 := by decide +kernel
theorem ls14 : SeqAt.shaped (py (.str (Str.ofString "no such gap"))) = true := sh_str (by decide +kernel)
theorem ll14 : (Str.ofString "no such gap").length = 11 := by decide +kernel
theorem la14 : atI (Str.ofString "no such gap").cps.toList 0 = some 110 := by decide +kernel
theorem lh15 : hs (Str.ofString "one gap of two kinds") = 872718140646035530919882885062217899343289913165282377674602983912249281839372988656534028976739970349517261333989206 := by decide +kernel
theorem ls15 : SeqAt.shaped (py (.str (Str.ofString "one gap of two kinds"))) = true := sh_str (by decide +kernel)
theorem ll15 : (Str.ofString "one gap of two kinds").length = 20 := by decide +kernel
theorem la15 : atI (Str.ofString "one gap of two kinds").cps.toList 0 = some 111 := by decide +kernel
theorem lh16 : hs (Str.ofString "a gap is left") = 358407516204613696364116870309351002166467804556434651577926099692424397965 := by decide +kernel
theorem ls16 : SeqAt.shaped (py (.str (Str.ofString "a gap is left"))) = true := sh_str (by decide +kernel)
theorem ll16 : (Str.ofString "a gap is left").length = 13 := by decide +kernel
theorem la16 : atI (Str.ofString "a gap is left").cps.toList 0 = some 97 := by decide +kernel
theorem lh17 : hs (Str.ofString "what can't be rubbed out") = 1440635620881040843522706145128308684156108294148285437830865151406483894877221583828896613858460420610152540546511326726931055814456505338028 := by decide +kernel
theorem ls17 : SeqAt.shaped (py (.str (Str.ofString "what can't be rubbed out"))) = true := sh_str (by decide +kernel)
theorem ll17 : (Str.ofString "what can't be rubbed out").length = 24 := by decide +kernel
theorem la17 : atI (Str.ofString "what can't be rubbed out").cps.toList 0 = some 119 := by decide +kernel
local macro_rules
  | `(tactic| rw_mod_cast [$ts,*]) => do
    let ls ← ts.getElems.mapM fun t => match t with
      | `(Lean.Parser.Tactic.rwRule| $x:term) => `(Lean.Parser.Tactic.simpLemma| $x:term)
      | _ => Lean.Macro.throwUnsupported
    `(tactic| simp (maxSteps := 3000000) only [oSS_s, oSS_e, kSS, arLtA, oFz_s, oFz_e, kFz, oInT_s, oInT_e, kInT, Bool.true_bne, ne_false', oRetT_s, oRetT_e, kRetT, kRetT1, oUpT_s, oUpT_e, kUpT, kCallU, oRev_s, oRev_e, kRev, oIRv_s, oIRv_e, kIRv, faDict, pairsD, amUpd, faJoin, faStrA, cx_K, cx_Kn, beq_str, oFld_s, oFld_e, kFld, lookN_cons, lookN_nil, putN_cons, putN_nil, putO_cons, putO_nil, oFs_s, oFs_e, kFs, oFa_s, oFa_e, kFa0, kFa1_e, kFa2, oMeth_s, oMeth_e, kMR, kMA, oMake_s, oMake_e, kMake, kMade, oLZ_s, oLZ_e, kLZ, oLS_s, oLS_e, kLS, oLT_s, oLT_e, kLT, arMulL, oIK_s, oIK_e, kIK, kyD, oMkV0_s, oMkV0_e, oMkV1_s, oMkV1_e, oMkV2_s, oMkV2_e, kMkV1, kMkV2, oRaise1_s, oRaise1_e, kRz1, oXf_s, oXf_e, kXf, oLm_s, oLm_e, kLm1, kLm2, arCnt, arIdx, arInD, oRaise2_s, oRaise2_e, kRz2, oTry_s, oTry_e, kGone, xfN, xfV, oRaise_s, oRaise_e, oChain_s, oChain_e, kCh1_e, kCh2, kCh3_e, kExc, List.getD_cons_zero, List.getD_cons_succ, pow_109, pow_1018, pow_1029, putKs_nil, putKs_cons, putDs_nil, putDs_cons, repD_cons, repD_nil, arDivB, CDivB, faSorted, at6, at7, at8, at9, at10, at11, at12, at13, at14, at15, at16, at17, eqD_tup_str, eqD_str_tup, eqD_tup_nil, eqD_str, eqD_int, sh_int, sh_non, sh_bl, sh_nil, sh_nilT, cut_from, cut_to, List.drop_succ_cons, List.drop_zero, List.take_succ_cons, List.take_zero, List.take_nil, List.drop_nil, inD_nil, inD_ss, lookK_cons, lookK_nil, memK_nil, memK_cons, ndB_nil, ndB_cons, ndK_e, List.all_cons, List.all_nil, Bool.false_or, Bool.true_or, Bool.or_true, Bool.and_false, Bool.false_and, Sum.inr.injEq, Sum.inl.injEq, reduceCtorEq, oV_s, oD_s, oVs_s, oLs_s, oOp_s, oCB_s, oVar_s, oC_s, oTup_s, oLst_s, oTr_s, oNotT_s, oAndT_s, oOrT_s, oBl_s, oIfE_s, oAndV_s, oOrV_s, oNotV_s, oSeq_s, oNext_s, oDrop_s, oIf_s, oRet_s, oRetD_s, oRetN_s, oBreak_s, oCont_s, oSet_s, oSetO_s, oWhile_s, ogName_s, ogTup_s, oIL_s, oIT_s, oIS_s, oIR1_s, oIR2_s, oFor_s, oComp_s, oYes_s, oClr_s, oCall_s, oON_s, oOS_s, oSl_s, oIsi_s, oMut_s, oMut0_s, oPut_s, oAug_s, oMS_s, oNeg_s, oIA_s, oUnp_s, opNil_s, opCons_s, oDisp_s, oGet_s, oTab_s, oT1_s, oTc_s, oCallT_s, oZip_s, oEnum_s, oPar_s, ogGo_s, oSeqC_s, oV_e, oD_e, oOp_e, oCB_e, oVar_e, oC_e, oTup_e, oLst_e, oTr_e, oNotT_e, oAndT_e, oOrT_e, oBl_e, oIfE_e, oAndV_e, oOrV_e, oNotV_e, oSeq_e, oNext_e, oDrop_e, oIf_e, oRet_e, oRetD_e, oRetN_e, oBreak_e, oCont_e, oSet_e, oSetO_e, ogName_e, oIL_e, oIT_e, oIS_e, oIR1_e, oIR2_e, oFor_e, oComp_e, oYes_e, oClr_e, oCall_e, oON_e, oOS_e, oSl_e, oIsi_e, oMut_e, oMut0_e, oPut_e, oAug_e, oMS_e, oNeg_e, oIA_e, oUnp_e, opNil_e, opCons_e, oDisp_e, oGet_e, oTab_e, oT1_e, oTc_e, oCallT_e, oZip_e, oEnum_e, oPar_e, oVs_nil, oVs_cons, oLs_nil, oLs_cons, ogTup_e, ogGo_nil, ogGo_cons, kGo, kPar, beq_self_eq_true, arMulA, kZi, zipD, seqD, kEn, enumD, kG1, kG2, kG3, kTab, kT1, kTc, kTc2, kT2, kT3, kT4, kFr, faSplit, faUpper, faStarts, kPc, kPb, kPa, keysD, kDisp, kClr, clr, G.kV, kD, kCons, kVs, kZ, kOp2, kOp1, kCB, kTup, kLst, kTr, kNot, kAnd, kOr, kBl, kIfE, kAndV, kOrV, kNotV, kDrop, kIf, kRet, kRetD, kWh, decide_true, decide_false, kSet, kSetO, kIR1, kIR2, kFor, kC3, kC2, kC1, kComp, kRes, kExc, kCall, kOS, kSl3, kSl2, kSl1, kIsi, kM2, kMut, kP3, kP2, kP1, kA2, kA1, kMS2, kMS1, kNeg, kIA, kUnp, free?, np_un, np_dat, np_own, frees?, Vx.at, Vx.ats, Zx.rx, argsOf, loans, apart, backs, resRx, outs, ar1, ar2, arAdd, arI, arI0, arSub, arMul, arDiv, arMod, arPow, arEq, arNe, arLt, arLe, arGt, arGe, arIsN, arNotN, isNonD, arIn, arIx, arSl, arPut, arAddI, scalE, flatD, keyD, faLen, faAbs, faInt, faStr, faList, faTuple, faAll, faAny, bools, isiD, aTru, szOk, amAppend, amPop, amExtend, isTy, List.getElem?_cons_zero, List.getElem?_cons_succ, List.set_cons_zero, List.set_cons_succ, List.cons_append, List.nil_append, List.map_cons, List.map_nil, List.contains_nil, List.contains_cons, Bool.and_true, Bool.true_and, Bool.and_self, Bool.or_false, Bool.not_eq_true, Nat.reduceBEq, List.length_cons, List.length_nil, List.length_map, Int.reducePow, Int.reduceToNat, at0, at1, at2, at3, at4, at5, ixn_0, ixn_1, ixn_2, ixn_3, ixn_4, ixn_5, sizeLine_eq, decide_eq_true_eq, Bool.not_eq_true', decide_eq_false_iff_not, ite_true, ite_false, true_and, and_true, if_pos, if_false, if_true, Bool.false_eq_true, D.str.injEq, D.int.injEq, List.replicate, List.append_nil, Nat.sub_self, Nat.reduceSub, Nat.reduceAdd, Nat.reduceLeDiff, Nat.reduceEqDiff, Nat.reduceLT, ne_eq, not_false_eq_true, not_true_eq_false, Nat.reduceEqDiff, Int.reduceLE, Int.reduceLT, Int.reduceAdd, Int.reduceNeg, Int.reduceEq, Int.reduceSub, Bool.not_true, Bool.not_false, Nat.reduceMul, Int.reduceMul, lh0, ls0, ll0, la0, lh1, ls1, ll1, la1, lh2, ls2, ll2, la2, lh3, ls3, ll3, la3, lh4, ls4, ll4, la4, lh5, ls5, ll5, la5, lh6, ls6, ll6, la6, lh7, ls7, ll7, la7, lh8, ls8, ll8, la8, lh9, ls9, ll9, la9, lh10, ls10, ll10, la10, lh11, ls11, ll11, la11, lh12, ls12, ll12, la12, lh13, ls13, ll13, la13, lh14, ls14, ll14, la14, lh15, ls15, ll15, la15, lh16, ls16, ll16, la16, lh17, ls17, ll17, la17, hs_sgl, str_ne, $ls,*])
/-! the drawer -/
def Pot (T : Nat) (h : D) : Prop := ∃ (cs : List Int) (at' dg tn : Int), h = .dct [.inr "cells", .inr "at", .inr "digits", .inr "turn"] [.lst (cs.map D.int), .int at', .int dg, .int tn] ∧ 0 ≤ at' ∧ 0 ≤ dg ∧ 0 ≤ tn ∧ tn ≤ T ∧ cs.length ≤ 63
theorem Pot.mono {T T' : Nat} {h : D} (x : Pot T h) (l : T ≤ T') : Pot T' h := let ⟨cs, a, dg, tn, e, h1, h2, h3, h4, h5⟩ := x; ⟨cs, a, dg, tn, e, h1, h2, h3, by omega, h5⟩
def sp_mixed : ASp := fun args Q E => ∃ c t : Int, args = [.dat (.int c), .dat (.int t)] ∧ 0 ≤ t ∧ t < 2 ^ 31 ∧ ∀ r, 0 ≤ r → Q (.dat (.int r)) args
def sp_pot : ASp := fun args Q E => ∃ ns : List Int, args = [.dat (.lst (ns.map D.int))] ∧ ∀ h, Pot 0 h → Q (.own false h) args
def sp_draw : ASp := fun args Q E => ∃ (T : Nat) (h : D) (m : Int), args = [.own true h, .dat (.int m)] ∧ Pot T h ∧ T < 2 ^ 30 ∧ 0 < m ∧ m < 2 ^ 150 ∧
  ∀ r h', 0 ≤ r → r < m → Pot (T + 1) h' → Q (.dat (.int r)) [.own true h', .dat (.int m)]
def marks (i : Nat) : List D := [.bl (decide (i = 0)), .bl (decide (i = 1)), .bl (decide (i = 2)), .bl (decide (i = 3)), .bl (decide (i = 4)), .bl (decide (i = 5)), .bl (decide (i = 6)), .bl (decide (i = 7)), .bl (decide (i = 8)), .bl (decide (i = 9)), .bl (decide (i = 10)), .bl (decide (i = 11)), .bl (decide (i = 12)), .bl (decide (i = 13)), .bl (decide (i = 14)), .bl (decide (i = 15))]
theorem mk_flat (i : Nat) : (marks i).all flatD = true := by simp [marks, flatD]
theorem mk_len (i : Nat) : (marks i).length = 16 := rfl
theorem mk_sh (i : Nat) : SeqAt.shaped (py (.lst (marks i))) = true := sh_of (n := 2) (by
  show shKs 1 (marks i) = true
  simp [marks, shKs, shK])
theorem eqDs_bl : ∀ bs : List Bool, eqDs (bs.map D.bl) (bs.map D.bl) = true
  | [] => rfl
  | b :: bs => by simp only [List.map_cons, eqDs, eqDs_bl bs, Bool.and_true]; cases b <;> decide +kernel
theorem eqDs_int : ∀ bs : List Int, eqDs (bs.map D.int) (bs.map D.int) = true
  | [] => rfl
  | b :: bs => by simp only [List.map_cons, eqDs, eqDs_int bs, Bool.and_true]; simp [eqD, py, PyData.eqv]
theorem mk_eq (i : Nat) : eqD (.lst (marks i)) (.lst (marks i)) = true := by
  rw [eqD_lst]
  exact eqDs_bl [decide (i = 0), decide (i = 1), decide (i = 2), decide (i = 3), decide (i = 4), decide (i = 5), decide (i = 6), decide (i = 7), decide (i = 8), decide (i = 9), decide (i = 10), decide (i = 11), decide (i = 12), decide (i = 13), decide (i = 14), decide (i = 15)]
theorem pl_sh (ns : List Int) : SeqAt.shaped (py (.tup (ns.map D.int))) = true := sh_of (n := 2) (by
  show shKs 1 (ns.map D.int) = true
  exact shKs_all fun d m => by
    obtain ⟨i, _, rfl⟩ := List.mem_map.mp m
    rfl)
theorem pl_eq (ns : List Int) : eqD (.tup (ns.map D.int)) (.tup (ns.map D.int)) = true := by
  rw [eqD_tup]
  exact eqDs_int ns
def fI (i : Nat) (d : D) : Option D := match d with
  | .int a => some (.bl (decide (a = (i : Int))))
  | _ => none
theorem comp_marks : ∀ i : Nat, i < 16 → (rgD 0 16).filterMap (fI i) = marks i
  | 0, _ => rfl
  | 1, _ => rfl
  | 2, _ => rfl
  | 3, _ => rfl
  | 4, _ => rfl
  | 5, _ => rfl
  | 6, _ => rfl
  | 7, _ => rfl
  | 8, _ => rfl
  | 9, _ => rfl
  | 10, _ => rfl
  | 11, _ => rfl
  | 12, _ => rfl
  | 13, _ => rfl
  | 14, _ => rfl
  | 15, _ => rfl
  | n + 16, h => by omega
def exOf (C : Addr) (pl st : D) (i : Nat) : D := if i < 4 then .exc (.ref C) [] [] else if i < 7 then .exc (.ref C) ["place"] [pl] else .exc (.ref C) ["stage", "place"] [st, pl]
def exsL (cs : List Addr) (pl st : D) : List D := cs.mapIdx fun i C => exOf C pl st i
theorem ex_get {cs : List Addr} {pl st : D} {j : Nat} {e : D} (h : (enumD 0 (exsL cs pl st))[j]? = some e) : ∃ C, cs[j]? = some C ∧ e = .tup [.int j, exOf C pl st j] ∧ j < cs.length := by
  have key : ∀ (ds : List D) (k j : Nat), (enumD k ds)[j]? = some e → ∃ d, ds[j]? = some d ∧ e = .tup [.int ((k + j : Nat) : Int), d] := by
    intro ds
    induction ds with
    | nil => intro k j h; simp [enumD] at h
    | cons d ds ih =>
      intro k j h
      cases j with
      | zero => cases h; exact ⟨d, rfl, rfl⟩
      | succ j =>
        obtain ⟨d', h1, h2⟩ := ih (k + 1) j h
        exact ⟨d', h1, by rw [h2]; congr 3; omega⟩
  obtain ⟨d, h1, h2⟩ := key _ _ _ h
  unfold exsL at h1
  rw [List.getElem?_mapIdx] at h1
  cases hC : cs[j]? with
  | none => rw [hC] at h1; cases h1
  | some C =>
    rw [hC] at h1
    cases h1
    exact ⟨C, rfl, by rw [h2, Nat.zero_add], (List.getElem?_eq_some_iff.mp hC).1⟩
def sp_marks (cs : List Addr) : ASp := fun args Q E => ∃ (i : Nat) (C : Addr) (ns : List Str) (ds : List D), args = [.dat (.exc (.ref C) ns ds)] ∧ cs[i]? = some C ∧ Q (.own false (.lst (marks i))) args
def sp_errs (cs : List Addr) : ASp := fun args Q E => ∃ pl st : D, args = [.dat pl, .dat st] ∧ Q (.own false (.lst (exsL cs pl st))) args
def sp_caught : ASp := fun args Q E => ∃ (pl st : D) (w : Int), args = [.dat pl, .dat st, .dat (.int w)] ∧ 0 ≤ w ∧ w < 3 ∧ Q (.dat (.bl true)) args
def sp_good (cs : List Addr) : ASp := fun args Q E => ∃ (i : Nat) (C : Addr) (ns : List Int) (s : Int), args = [.dat (.int i), .dat (exOf C (.tup (ns.map D.int)) (.int s) i), .dat (.tup (ns.map D.int)), .dat (.int s)] ∧ cs[i]? = some C ∧ Q (.dat (.bl true)) args
def sp_law : ASp := fun args Q E => ∃ ns : List Int, args = [.dat (.lst (ns.map D.int))] ∧ ns.length ≤ 63 ∧ ∀ as, Q (.dat (.bl true)) as
section
variable {cl_GapError cl_NoPlace cl_NoText cl_NoMaking cl_NoRow cl_TooGreat cl_TooLong cl_TooLarge cl_NoName cl_OtherStage cl_Shut cl_WrongKind cl_NoPiece cl_NoGap cl_Unlike cl_GapLeft cl_NoRub : Addr} {P : Program} {w : World} {K : PySem.W.Frag} {mg : Str → Option Value} {base : Heap}
theorem ok_mixed (T : Tx K mg cl_GapError cl_NoPlace cl_NoText cl_NoMaking cl_NoRow cl_TooGreat cl_TooLong cl_TooLarge cl_NoName cl_OtherStage cl_Shut cl_WrongKind cl_NoPiece cl_NoGap cl_Unlike cl_GapLeft cl_NoRub) : FnC P w K mg base CX0 1 "_law_mixed" sp_mixed := by
  refine fnc_of T.f_law_mixed (ps := ["_law_cell", "_law_turn"]) (fun _ _ _ _ _ _ us hl => match us, hl with | [_, _], _ => rfl) fun f fd F => fn_ok [.un] F sc_law_mixed (fun args Q E ⟨_, _, e, _⟩ => by subst e; rfl) fun cdv A outer s H E hr => ⟨_, (ss_cons (sx_set 2 sc_law_mixed.nd (ex_op op_mod op2_mod (ex_op op_mulA op2_mulA (ex_op op_addA op2_add (ex_op op_addA op2_add (ex_op op_mod op2_mod (ex_var 0) ex_int) (ex_op op_mulA op2_mulA (ex_op op_mulA op2_mulA (ex_var 1) (ex_var 1)) ex_int)) ex_int) ex_int) ex_int))
    (ss_one (sx_ret (ex_op op_fdivB op2_divB (ex_op op_mod op2_mod (ex_op op_mulA op2_mulA (ex_op op_addA op2_add (ex_op op_addA op2_add (ex_op op_fdivB op2_divB (ex_var 2) ex_int) (ex_op op_mulA op2_mulA (ex_var 1) ex_int)) ex_int) ex_int) ex_int) ex_int)))), ?_⟩
  rintro args Q E' ⟨c, t, rfl, t0, t1, q⟩
  rw_mod_cast []
  refine ⟨.inl ⟨by omega, by omega⟩, .inr ⟨by decide, by decide⟩, .inr ⟨by decide, by decide⟩, .inr ⟨by decide, by decide⟩, .inr ⟨by decide, by decide⟩, q _ ?_⟩
  exact Int.ediv_nonneg (Int.emod_nonneg _ (by decide)) (by decide)
theorem ok_pot (T : Tx K mg cl_GapError cl_NoPlace cl_NoText cl_NoMaking cl_NoRow cl_TooGreat cl_TooLong cl_TooLarge cl_NoName cl_OtherStage cl_Shut cl_WrongKind cl_NoPiece cl_NoGap cl_Unlike cl_GapLeft cl_NoRub) : FnC P w K mg base CX0 1 "_law_pot" sp_pot := by
  refine fnc_of T.f_law_pot (ps := ["_law_script"]) (fun _ _ _ _ _ _ us hl => match us, hl with | [_], _ => rfl) fun f fd F => fn_ok [] F sc_law_pot (fun args Q E ⟨_, e, _⟩ => by subst e; rfl) fun cdv A outer s H E hr => ⟨_, (ss_one (sx_ret (ex_disp (eps_cons ex_str (ex_cty call_list_of opn_list T.n_list boot_t_list (ev_cons (ex_sl (ex_var 0) ox_none (ox_some ex_int)) ev_nil)) (eps_cons ex_str ex_int (eps_cons ex_str ex_int (eps_cons ex_str ex_int eps_nil))))))), ?_⟩
  rintro args Q E' ⟨ns, rfl, q⟩
  rw_mod_cast []
  refine q _ ⟨ns.take 63, 0, 0, 0, by rw [List.map_take], by decide, by decide, by decide, by decide, by rw [List.length_take]; omega⟩
theorem ok_draw (T : Tx K mg cl_GapError cl_NoPlace cl_NoText cl_NoMaking cl_NoRow cl_TooGreat cl_TooLong cl_TooLarge cl_NoName cl_OtherStage cl_Shut cl_WrongKind cl_NoPiece cl_NoGap cl_Unlike cl_GapLeft cl_NoRub) : FnC P w K mg base CX0 2 "_law_draw" sp_draw := by
  have C_law_mixed : FnC P w K mg base CX0 1 "_law_mixed" sp_mixed := ok_mixed T
  refine fnc_of T.f_law_draw (ps := ["_law_pot_here", "_law_many"]) (fun _ _ _ _ _ _ us hl => match us, hl with | [_, _], _ => rfl) fun f fd F => fn_ok [.un, .un] F sc_law_draw (fun args Q E ⟨_, _, _, e, _⟩ => by subst e; rfl) fun cdv A outer s H E hr => ⟨_, (ss_cons (sx_put 0 (hu_of hr) (ex_op op_addA op2_add (ex_ix (ix_any (hu_of hr)) op2_ix (ex_var 0) ex_str) ex_int) ex_str)
    (ss_cons (sx_if (et_cmp (op_eqA hr.units) op2_eq (ex_ix (ix_any (hu_of hr)) op2_ix (ex_var 0) ex_str) ex_int (nomark _)) (ss_cons (sx_set 2 sc_law_draw.nd ex_int)
    (ss_cons (sx_if (et_cmp op_gt op2_gt (ex_cb call_lenA opn_len T.n_len boot_b_len (ev_cons (ex_ix (ix_any (hu_of hr)) op2_ix (ex_var 0) ex_str) ev_nil)) ex_int (nomark _)) (ss_cons (sx_set 2 sc_law_draw.nd (ex_ix (ix_any (hu_of hr)) op2_ix (ex_ix (ix_any (hu_of hr)) op2_ix (ex_var 0) ex_str) (ex_op op_mod op2_mod (ex_ix (ix_any (hu_of hr)) op2_ix (ex_var 0) ex_str) (ex_cb call_lenA opn_len T.n_len boot_b_len (ev_cons (ex_ix (ix_any (hu_of hr)) op2_ix (ex_var 0) ex_str) ev_nil)))))
    (ss_one (sx_put 0 (hu_of hr) (ex_op op_addA op2_add (ex_ix (ix_any (hu_of hr)) op2_ix (ex_var 0) ex_str) ex_int) ex_str))) ss_nil)
    (ss_cons (sx_if (et_cmp op_ltA op2_ltA (ex_var 2) (ex_op op_pow op2_pow ex_int ex_int) (nomark _)) (ss_one (sx_ret (ex_op op_mod op2_mod (ex_callN C_law_mixed hr (ev_cons (ex_var 2) (ev_cons (ex_ix (ix_any (hu_of hr)) op2_ix (ex_var 0) ex_str) ev_nil))) (ex_var 1)))) ss_nil)
    (ss_one (sx_put 0 (hu_of hr) (ex_var 2) ex_str))))) ss_nil)
    (ss_cons (sx_set 3 sc_law_draw.nd (ex_op op_mod op2_mod (ex_ix (ix_any (hu_of hr)) op2_ix (ex_var 0) ex_str) (ex_var 1)))
    (ss_cons (sx_put 0 (hu_of hr) (ex_op op_fdivB op2_divB (ex_ix (ix_any (hu_of hr)) op2_ix (ex_var 0) ex_str) (ex_var 1)) ex_str)
    (ss_one (sx_ret (ex_var 3))))))), ?_⟩
  rintro args Q E' ⟨Tn, h, m, rfl, ⟨cs, at', dg, tn, rfl, h1, h2, h3, h4, h5⟩, hT, m0, m1, q⟩
  have fin : ∀ (a2 dg2 : Int), 0 ≤ a2 → 0 ≤ dg2 → Pot (Tn + 1) (.dct [.inr "cells", .inr "at", .inr "digits", .inr "turn"] [.lst (cs.map D.int), .int a2, .int dg2, .int (tn + 1)]) := fun a2 dg2 x1 x2 => ⟨cs, a2, dg2, tn + 1, rfl, x1, x2, by omega, by omega, h5⟩
  rw_mod_cast []
  split
  · rename_i hdg
    subst hdg
    split
    · rename_i hcs
      have e1 : 0 ≤ at' % (cs.length : Int) := Int.emod_nonneg _ (by omega)
      have e2 : at' % (cs.length : Int) < (cs.length : Int) := Int.emod_lt_of_pos _ hcs
      obtain ⟨v, hv⟩ := at_ints e1 e2
      rw_mod_cast [hv]
      refine ⟨hcs, ?_⟩
      split
      · refine ⟨v, tn + 1, rfl, by omega, by omega, fun r r0 => ?_⟩
        rw_mod_cast []
        exact ⟨m0, q _ _ (Int.emod_nonneg _ (by omega)) (Int.emod_lt_of_pos _ m0) (fin _ _ (by omega) (by omega))⟩
      · rename_i hvv
        exact ⟨m0, ⟨m0, Int.lt_trans m1 (by decide)⟩, q _ _ (Int.emod_nonneg _ (by omega)) (Int.emod_lt_of_pos _ m0) (fin _ _ (by omega) (Int.ediv_nonneg (by omega) (by omega)))⟩
    · refine ⟨0, tn + 1, rfl, by omega, by omega, fun r r0 => ?_⟩
      rw_mod_cast []
      exact ⟨m0, q _ _ (Int.emod_nonneg _ (by omega)) (Int.emod_lt_of_pos _ m0) (fin _ _ (by omega) (by omega))⟩
  · exact ⟨m0, ⟨m0, Int.lt_trans m1 (by decide)⟩, q _ _ (Int.emod_nonneg _ (by omega)) (Int.emod_lt_of_pos _ m0) (fin _ _ (by omega) (Int.ediv_nonneg (by omega) (by omega)))⟩
theorem kit_all (T : Tx K mg cl_GapError cl_NoPlace cl_NoText cl_NoMaking cl_NoRow cl_TooGreat cl_TooLong cl_TooLarge cl_NoName cl_OtherStage cl_Shut cl_WrongKind cl_NoPiece cl_NoGap cl_Unlike cl_GapLeft cl_NoRub) : ∀ (i : Nat) (C : Addr), [cl_NoPlace, cl_NoText, cl_NoMaking, cl_NoRow, cl_TooGreat, cl_TooLong, cl_TooLarge, cl_NoName, cl_OtherStage, cl_Shut, cl_WrongKind, cl_NoPiece, cl_NoGap, cl_Unlike, cl_GapLeft, cl_NoRub][i]? = some C → (XCl K C ∧ PySem.W.exmOne K (.ref C) (.ref cl_GapError) = some true) ∧ (PySem.W.kitOne K (.ref C) (.ref cl_GapError) = some true ∧ PySem.W.kitOne K (.ref C) (.type "ValueError") = some true) ∧ ((4 ≤ i → XfC K C ∧ PySem.W.findIn K (.ref C) "place" = some none) ∧ (7 ≤ i → PySem.W.findIn K (.ref C) "stage" = some none)) ∧
  PySem.W.kitOne K (.ref C) (.ref cl_NoPlace) = some (decide (i = 0)) ∧ PySem.W.kitOne K (.ref C) (.ref cl_NoText) = some (decide (i = 1)) ∧ PySem.W.kitOne K (.ref C) (.ref cl_NoMaking) = some (decide (i = 2)) ∧ PySem.W.kitOne K (.ref C) (.ref cl_NoRow) = some (decide (i = 3)) ∧ PySem.W.kitOne K (.ref C) (.ref cl_TooGreat) = some (decide (i = 4)) ∧ PySem.W.kitOne K (.ref C) (.ref cl_TooLong) = some (decide (i = 5)) ∧ PySem.W.kitOne K (.ref C) (.ref cl_TooLarge) = some (decide (i = 6)) ∧ PySem.W.kitOne K (.ref C) (.ref cl_NoName) = some (decide (i = 7)) ∧ PySem.W.kitOne K (.ref C) (.ref cl_OtherStage) = some (decide (i = 8)) ∧ PySem.W.kitOne K (.ref C) (.ref cl_Shut) = some (decide (i = 9)) ∧ PySem.W.kitOne K (.ref C) (.ref cl_WrongKind) = some (decide (i = 10)) ∧ PySem.W.kitOne K (.ref C) (.ref cl_NoPiece) = some (decide (i = 11)) ∧ PySem.W.kitOne K (.ref C) (.ref cl_NoGap) = some (decide (i = 12)) ∧ PySem.W.kitOne K (.ref C) (.ref cl_Unlike) = some (decide (i = 13)) ∧ PySem.W.kitOne K (.ref C) (.ref cl_GapLeft) = some (decide (i = 14)) ∧ PySem.W.kitOne K (.ref C) (.ref cl_NoRub) = some (decide (i = 15)) := fun i C h => match i, h with
  | 0, h => by
    obtain rfl : cl_NoPlace = C := Option.some.inj h
    exact ⟨⟨T.xc_NoPlace, T.em_NoPlace⟩, ⟨T.ki_NoPlace_GapError, T.kv_NoPlace⟩, ⟨fun h => absurd h (by decide), fun h => absurd h (by decide)⟩, T.ki_NoPlace_NoPlace, T.ki_NoPlace_NoText, T.ki_NoPlace_NoMaking, T.ki_NoPlace_NoRow, T.ki_NoPlace_TooGreat, T.ki_NoPlace_TooLong, T.ki_NoPlace_TooLarge, T.ki_NoPlace_NoName, T.ki_NoPlace_OtherStage, T.ki_NoPlace_Shut, T.ki_NoPlace_WrongKind, T.ki_NoPlace_NoPiece, T.ki_NoPlace_NoGap, T.ki_NoPlace_Unlike, T.ki_NoPlace_GapLeft, T.ki_NoPlace_NoRub⟩
  | 1, h => by
    obtain rfl : cl_NoText = C := Option.some.inj h
    exact ⟨⟨T.xc_NoText, T.em_NoText⟩, ⟨T.ki_NoText_GapError, T.kv_NoText⟩, ⟨fun h => absurd h (by decide), fun h => absurd h (by decide)⟩, T.ki_NoText_NoPlace, T.ki_NoText_NoText, T.ki_NoText_NoMaking, T.ki_NoText_NoRow, T.ki_NoText_TooGreat, T.ki_NoText_TooLong, T.ki_NoText_TooLarge, T.ki_NoText_NoName, T.ki_NoText_OtherStage, T.ki_NoText_Shut, T.ki_NoText_WrongKind, T.ki_NoText_NoPiece, T.ki_NoText_NoGap, T.ki_NoText_Unlike, T.ki_NoText_GapLeft, T.ki_NoText_NoRub⟩
  | 2, h => by
    obtain rfl : cl_NoMaking = C := Option.some.inj h
    exact ⟨⟨T.xc_NoMaking, T.em_NoMaking⟩, ⟨T.ki_NoMaking_GapError, T.kv_NoMaking⟩, ⟨fun h => absurd h (by decide), fun h => absurd h (by decide)⟩, T.ki_NoMaking_NoPlace, T.ki_NoMaking_NoText, T.ki_NoMaking_NoMaking, T.ki_NoMaking_NoRow, T.ki_NoMaking_TooGreat, T.ki_NoMaking_TooLong, T.ki_NoMaking_TooLarge, T.ki_NoMaking_NoName, T.ki_NoMaking_OtherStage, T.ki_NoMaking_Shut, T.ki_NoMaking_WrongKind, T.ki_NoMaking_NoPiece, T.ki_NoMaking_NoGap, T.ki_NoMaking_Unlike, T.ki_NoMaking_GapLeft, T.ki_NoMaking_NoRub⟩
  | 3, h => by
    obtain rfl : cl_NoRow = C := Option.some.inj h
    exact ⟨⟨T.xc_NoRow, T.em_NoRow⟩, ⟨T.ki_NoRow_GapError, T.kv_NoRow⟩, ⟨fun h => absurd h (by decide), fun h => absurd h (by decide)⟩, T.ki_NoRow_NoPlace, T.ki_NoRow_NoText, T.ki_NoRow_NoMaking, T.ki_NoRow_NoRow, T.ki_NoRow_TooGreat, T.ki_NoRow_TooLong, T.ki_NoRow_TooLarge, T.ki_NoRow_NoName, T.ki_NoRow_OtherStage, T.ki_NoRow_Shut, T.ki_NoRow_WrongKind, T.ki_NoRow_NoPiece, T.ki_NoRow_NoGap, T.ki_NoRow_Unlike, T.ki_NoRow_GapLeft, T.ki_NoRow_NoRub⟩
  | 4, h => by
    obtain rfl : cl_TooGreat = C := Option.some.inj h
    exact ⟨⟨T.xc_TooGreat, T.em_TooGreat⟩, ⟨T.ki_TooGreat_GapError, T.kv_TooGreat⟩, ⟨fun _ => ⟨T.xf_TooGreat, T.fp_TooGreat⟩, fun h => absurd h (by decide)⟩, T.ki_TooGreat_NoPlace, T.ki_TooGreat_NoText, T.ki_TooGreat_NoMaking, T.ki_TooGreat_NoRow, T.ki_TooGreat_TooGreat, T.ki_TooGreat_TooLong, T.ki_TooGreat_TooLarge, T.ki_TooGreat_NoName, T.ki_TooGreat_OtherStage, T.ki_TooGreat_Shut, T.ki_TooGreat_WrongKind, T.ki_TooGreat_NoPiece, T.ki_TooGreat_NoGap, T.ki_TooGreat_Unlike, T.ki_TooGreat_GapLeft, T.ki_TooGreat_NoRub⟩
  | 5, h => by
    obtain rfl : cl_TooLong = C := Option.some.inj h
    exact ⟨⟨T.xc_TooLong, T.em_TooLong⟩, ⟨T.ki_TooLong_GapError, T.kv_TooLong⟩, ⟨fun _ => ⟨T.xf_TooLong, T.fp_TooLong⟩, fun h => absurd h (by decide)⟩, T.ki_TooLong_NoPlace, T.ki_TooLong_NoText, T.ki_TooLong_NoMaking, T.ki_TooLong_NoRow, T.ki_TooLong_TooGreat, T.ki_TooLong_TooLong, T.ki_TooLong_TooLarge, T.ki_TooLong_NoName, T.ki_TooLong_OtherStage, T.ki_TooLong_Shut, T.ki_TooLong_WrongKind, T.ki_TooLong_NoPiece, T.ki_TooLong_NoGap, T.ki_TooLong_Unlike, T.ki_TooLong_GapLeft, T.ki_TooLong_NoRub⟩
  | 6, h => by
    obtain rfl : cl_TooLarge = C := Option.some.inj h
    exact ⟨⟨T.xc_TooLarge, T.em_TooLarge⟩, ⟨T.ki_TooLarge_GapError, T.kv_TooLarge⟩, ⟨fun _ => ⟨T.xf_TooLarge, T.fp_TooLarge⟩, fun h => absurd h (by decide)⟩, T.ki_TooLarge_NoPlace, T.ki_TooLarge_NoText, T.ki_TooLarge_NoMaking, T.ki_TooLarge_NoRow, T.ki_TooLarge_TooGreat, T.ki_TooLarge_TooLong, T.ki_TooLarge_TooLarge, T.ki_TooLarge_NoName, T.ki_TooLarge_OtherStage, T.ki_TooLarge_Shut, T.ki_TooLarge_WrongKind, T.ki_TooLarge_NoPiece, T.ki_TooLarge_NoGap, T.ki_TooLarge_Unlike, T.ki_TooLarge_GapLeft, T.ki_TooLarge_NoRub⟩
  | 7, h => by
    obtain rfl : cl_NoName = C := Option.some.inj h
    exact ⟨⟨T.xc_NoName, T.em_NoName⟩, ⟨T.ki_NoName_GapError, T.kv_NoName⟩, ⟨fun _ => ⟨T.xf_NoName, T.fp_NoName⟩, fun _ => T.fs_NoName⟩, T.ki_NoName_NoPlace, T.ki_NoName_NoText, T.ki_NoName_NoMaking, T.ki_NoName_NoRow, T.ki_NoName_TooGreat, T.ki_NoName_TooLong, T.ki_NoName_TooLarge, T.ki_NoName_NoName, T.ki_NoName_OtherStage, T.ki_NoName_Shut, T.ki_NoName_WrongKind, T.ki_NoName_NoPiece, T.ki_NoName_NoGap, T.ki_NoName_Unlike, T.ki_NoName_GapLeft, T.ki_NoName_NoRub⟩
  | 8, h => by
    obtain rfl : cl_OtherStage = C := Option.some.inj h
    exact ⟨⟨T.xc_OtherStage, T.em_OtherStage⟩, ⟨T.ki_OtherStage_GapError, T.kv_OtherStage⟩, ⟨fun _ => ⟨T.xf_OtherStage, T.fp_OtherStage⟩, fun _ => T.fs_OtherStage⟩, T.ki_OtherStage_NoPlace, T.ki_OtherStage_NoText, T.ki_OtherStage_NoMaking, T.ki_OtherStage_NoRow, T.ki_OtherStage_TooGreat, T.ki_OtherStage_TooLong, T.ki_OtherStage_TooLarge, T.ki_OtherStage_NoName, T.ki_OtherStage_OtherStage, T.ki_OtherStage_Shut, T.ki_OtherStage_WrongKind, T.ki_OtherStage_NoPiece, T.ki_OtherStage_NoGap, T.ki_OtherStage_Unlike, T.ki_OtherStage_GapLeft, T.ki_OtherStage_NoRub⟩
  | 9, h => by
    obtain rfl : cl_Shut = C := Option.some.inj h
    exact ⟨⟨T.xc_Shut, T.em_Shut⟩, ⟨T.ki_Shut_GapError, T.kv_Shut⟩, ⟨fun _ => ⟨T.xf_Shut, T.fp_Shut⟩, fun _ => T.fs_Shut⟩, T.ki_Shut_NoPlace, T.ki_Shut_NoText, T.ki_Shut_NoMaking, T.ki_Shut_NoRow, T.ki_Shut_TooGreat, T.ki_Shut_TooLong, T.ki_Shut_TooLarge, T.ki_Shut_NoName, T.ki_Shut_OtherStage, T.ki_Shut_Shut, T.ki_Shut_WrongKind, T.ki_Shut_NoPiece, T.ki_Shut_NoGap, T.ki_Shut_Unlike, T.ki_Shut_GapLeft, T.ki_Shut_NoRub⟩
  | 10, h => by
    obtain rfl : cl_WrongKind = C := Option.some.inj h
    exact ⟨⟨T.xc_WrongKind, T.em_WrongKind⟩, ⟨T.ki_WrongKind_GapError, T.kv_WrongKind⟩, ⟨fun _ => ⟨T.xf_WrongKind, T.fp_WrongKind⟩, fun _ => T.fs_WrongKind⟩, T.ki_WrongKind_NoPlace, T.ki_WrongKind_NoText, T.ki_WrongKind_NoMaking, T.ki_WrongKind_NoRow, T.ki_WrongKind_TooGreat, T.ki_WrongKind_TooLong, T.ki_WrongKind_TooLarge, T.ki_WrongKind_NoName, T.ki_WrongKind_OtherStage, T.ki_WrongKind_Shut, T.ki_WrongKind_WrongKind, T.ki_WrongKind_NoPiece, T.ki_WrongKind_NoGap, T.ki_WrongKind_Unlike, T.ki_WrongKind_GapLeft, T.ki_WrongKind_NoRub⟩
  | 11, h => by
    obtain rfl : cl_NoPiece = C := Option.some.inj h
    exact ⟨⟨T.xc_NoPiece, T.em_NoPiece⟩, ⟨T.ki_NoPiece_GapError, T.kv_NoPiece⟩, ⟨fun _ => ⟨T.xf_NoPiece, T.fp_NoPiece⟩, fun _ => T.fs_NoPiece⟩, T.ki_NoPiece_NoPlace, T.ki_NoPiece_NoText, T.ki_NoPiece_NoMaking, T.ki_NoPiece_NoRow, T.ki_NoPiece_TooGreat, T.ki_NoPiece_TooLong, T.ki_NoPiece_TooLarge, T.ki_NoPiece_NoName, T.ki_NoPiece_OtherStage, T.ki_NoPiece_Shut, T.ki_NoPiece_WrongKind, T.ki_NoPiece_NoPiece, T.ki_NoPiece_NoGap, T.ki_NoPiece_Unlike, T.ki_NoPiece_GapLeft, T.ki_NoPiece_NoRub⟩
  | 12, h => by
    obtain rfl : cl_NoGap = C := Option.some.inj h
    exact ⟨⟨T.xc_NoGap, T.em_NoGap⟩, ⟨T.ki_NoGap_GapError, T.kv_NoGap⟩, ⟨fun _ => ⟨T.xf_NoGap, T.fp_NoGap⟩, fun _ => T.fs_NoGap⟩, T.ki_NoGap_NoPlace, T.ki_NoGap_NoText, T.ki_NoGap_NoMaking, T.ki_NoGap_NoRow, T.ki_NoGap_TooGreat, T.ki_NoGap_TooLong, T.ki_NoGap_TooLarge, T.ki_NoGap_NoName, T.ki_NoGap_OtherStage, T.ki_NoGap_Shut, T.ki_NoGap_WrongKind, T.ki_NoGap_NoPiece, T.ki_NoGap_NoGap, T.ki_NoGap_Unlike, T.ki_NoGap_GapLeft, T.ki_NoGap_NoRub⟩
  | 13, h => by
    obtain rfl : cl_Unlike = C := Option.some.inj h
    exact ⟨⟨T.xc_Unlike, T.em_Unlike⟩, ⟨T.ki_Unlike_GapError, T.kv_Unlike⟩, ⟨fun _ => ⟨T.xf_Unlike, T.fp_Unlike⟩, fun _ => T.fs_Unlike⟩, T.ki_Unlike_NoPlace, T.ki_Unlike_NoText, T.ki_Unlike_NoMaking, T.ki_Unlike_NoRow, T.ki_Unlike_TooGreat, T.ki_Unlike_TooLong, T.ki_Unlike_TooLarge, T.ki_Unlike_NoName, T.ki_Unlike_OtherStage, T.ki_Unlike_Shut, T.ki_Unlike_WrongKind, T.ki_Unlike_NoPiece, T.ki_Unlike_NoGap, T.ki_Unlike_Unlike, T.ki_Unlike_GapLeft, T.ki_Unlike_NoRub⟩
  | 14, h => by
    obtain rfl : cl_GapLeft = C := Option.some.inj h
    exact ⟨⟨T.xc_GapLeft, T.em_GapLeft⟩, ⟨T.ki_GapLeft_GapError, T.kv_GapLeft⟩, ⟨fun _ => ⟨T.xf_GapLeft, T.fp_GapLeft⟩, fun _ => T.fs_GapLeft⟩, T.ki_GapLeft_NoPlace, T.ki_GapLeft_NoText, T.ki_GapLeft_NoMaking, T.ki_GapLeft_NoRow, T.ki_GapLeft_TooGreat, T.ki_GapLeft_TooLong, T.ki_GapLeft_TooLarge, T.ki_GapLeft_NoName, T.ki_GapLeft_OtherStage, T.ki_GapLeft_Shut, T.ki_GapLeft_WrongKind, T.ki_GapLeft_NoPiece, T.ki_GapLeft_NoGap, T.ki_GapLeft_Unlike, T.ki_GapLeft_GapLeft, T.ki_GapLeft_NoRub⟩
  | 15, h => by
    obtain rfl : cl_NoRub = C := Option.some.inj h
    exact ⟨⟨T.xc_NoRub, T.em_NoRub⟩, ⟨T.ki_NoRub_GapError, T.kv_NoRub⟩, ⟨fun _ => ⟨T.xf_NoRub, T.fp_NoRub⟩, fun _ => T.fs_NoRub⟩, T.ki_NoRub_NoPlace, T.ki_NoRub_NoText, T.ki_NoRub_NoMaking, T.ki_NoRub_NoRow, T.ki_NoRub_TooGreat, T.ki_NoRub_TooLong, T.ki_NoRub_TooLarge, T.ki_NoRub_NoName, T.ki_NoRub_OtherStage, T.ki_NoRub_Shut, T.ki_NoRub_WrongKind, T.ki_NoRub_NoPiece, T.ki_NoRub_NoGap, T.ki_NoRub_Unlike, T.ki_NoRub_GapLeft, T.ki_NoRub_NoRub⟩
  | n + 16, h => by simp at h
theorem ok_marks (T : Tx K mg cl_GapError cl_NoPlace cl_NoText cl_NoMaking cl_NoRow cl_TooGreat cl_TooLong cl_TooLarge cl_NoName cl_OtherStage cl_Shut cl_WrongKind cl_NoPiece cl_NoGap cl_Unlike cl_GapLeft cl_NoRub) : FnC P w K mg base CX0 1 "_law_marks" (sp_marks [cl_NoPlace, cl_NoText, cl_NoMaking, cl_NoRow, cl_TooGreat, cl_TooLong, cl_TooLarge, cl_NoName, cl_OtherStage, cl_Shut, cl_WrongKind, cl_NoPiece, cl_NoGap, cl_Unlike, cl_GapLeft, cl_NoRub]) := by
  refine fnc_of T.f_law_marks (ps := ["_law_error"]) (fun _ _ _ _ _ _ us hl => match us, hl with | [_], _ => rfl) fun f fd F => fn_ok [.un] F sc_law_marks (fun args Q E ⟨_, _, _, _, e, _⟩ => by subst e; rfl) fun cdv A outer s H E hr => ⟨_, (ss_cons (sx_set 1 sc_law_marks.nd (ex_lst (el_cons (ex_cb call_isX opn_isX T.n_isinstance boot_b_isinstance (ev_cons (ex_var 0) (ev_cons (ex_gl T.x_NoPlace) ev_nil))) (el_cons (ex_cb call_isX opn_isX T.n_isinstance boot_b_isinstance (ev_cons (ex_var 0) (ev_cons (ex_gl T.x_NoText) ev_nil))) (el_cons (ex_cb call_isX opn_isX T.n_isinstance boot_b_isinstance (ev_cons (ex_var 0) (ev_cons (ex_gl T.x_NoMaking) ev_nil))) el_nil)))))
    (ss_cons (sx_set 1 sc_law_marks.nd (ex_op op_addA op2_add (ex_var 1) (ex_lst (el_cons (ex_cb call_isX opn_isX T.n_isinstance boot_b_isinstance (ev_cons (ex_var 0) (ev_cons (ex_gl T.x_NoRow) ev_nil))) (el_cons (ex_cb call_isX opn_isX T.n_isinstance boot_b_isinstance (ev_cons (ex_var 0) (ev_cons (ex_gl T.x_TooGreat) ev_nil))) (el_cons (ex_cb call_isX opn_isX T.n_isinstance boot_b_isinstance (ev_cons (ex_var 0) (ev_cons (ex_gl T.x_TooLong) ev_nil))) el_nil))))))
    (ss_cons (sx_set 1 sc_law_marks.nd (ex_op op_addA op2_add (ex_var 1) (ex_lst (el_cons (ex_cb call_isX opn_isX T.n_isinstance boot_b_isinstance (ev_cons (ex_var 0) (ev_cons (ex_gl T.x_TooLarge) ev_nil))) (el_cons (ex_cb call_isX opn_isX T.n_isinstance boot_b_isinstance (ev_cons (ex_var 0) (ev_cons (ex_gl T.x_NoName) ev_nil))) (el_cons (ex_cb call_isX opn_isX T.n_isinstance boot_b_isinstance (ev_cons (ex_var 0) (ev_cons (ex_gl T.x_OtherStage) ev_nil))) el_nil))))))
    (ss_cons (sx_set 1 sc_law_marks.nd (ex_op op_addA op2_add (ex_var 1) (ex_lst (el_cons (ex_cb call_isX opn_isX T.n_isinstance boot_b_isinstance (ev_cons (ex_var 0) (ev_cons (ex_gl T.x_Shut) ev_nil))) (el_cons (ex_cb call_isX opn_isX T.n_isinstance boot_b_isinstance (ev_cons (ex_var 0) (ev_cons (ex_gl T.x_WrongKind) ev_nil))) (el_cons (ex_cb call_isX opn_isX T.n_isinstance boot_b_isinstance (ev_cons (ex_var 0) (ev_cons (ex_gl T.x_NoPiece) ev_nil))) el_nil))))))
    (ss_cons (sx_set 1 sc_law_marks.nd (ex_op op_addA op2_add (ex_var 1) (ex_lst (el_cons (ex_cb call_isX opn_isX T.n_isinstance boot_b_isinstance (ev_cons (ex_var 0) (ev_cons (ex_gl T.x_NoGap) ev_nil))) (el_cons (ex_cb call_isX opn_isX T.n_isinstance boot_b_isinstance (ev_cons (ex_var 0) (ev_cons (ex_gl T.x_Unlike) ev_nil))) (el_cons (ex_cb call_isX opn_isX T.n_isinstance boot_b_isinstance (ev_cons (ex_var 0) (ev_cons (ex_gl T.x_GapLeft) ev_nil))) el_nil))))))
    (ss_one (sx_ret (ex_op op_addA op2_add (ex_var 1) (ex_lst (el_cons (ex_cb call_isX opn_isX T.n_isinstance boot_b_isinstance (ev_cons (ex_var 0) (ev_cons (ex_gl T.x_NoRub) ev_nil))) el_nil)))))))))), ?_⟩
  rintro args Q E' ⟨i, C, ns, ds, rfl, hC, q⟩
  obtain ⟨⟨xc, em⟩, ⟨kG, kV⟩, ⟨hp, hs⟩, k0, k1, k2, k3, k4, k5, k6, k7, k8, k9, k10, k11, k12, k13, k14, k15⟩ := kit_all T i C hC
  unfold marks at q
  rw_mod_cast [xc, kG, kV, k0, k1, k2, k3, k4, k5, k6, k7, k8, k9, k10, k11, k12, k13, k14, k15, ar2, arIs, clsU_r, clsU_t, clsU_p, clsUs_n, clsUs_c, kitAny_e, kitAny_n]
  exact q
theorem ok_marksA (T : Tx K mg cl_GapError cl_NoPlace cl_NoText cl_NoMaking cl_NoRow cl_TooGreat cl_TooLong cl_TooLarge cl_NoName cl_OtherStage cl_Shut cl_WrongKind cl_NoPiece cl_NoGap cl_Unlike cl_GapLeft cl_NoRub) : FnCA P w K mg base 1 "_law_marks" (sp_marks [cl_NoPlace, cl_NoText, cl_NoMaking, cl_NoRow, cl_TooGreat, cl_TooLong, cl_TooLarge, cl_NoName, cl_OtherStage, cl_Shut, cl_WrongKind, cl_NoPiece, cl_NoGap, cl_Unlike, cl_GapLeft, cl_NoRub]) := by
  refine fnca_of T.f_law_marks (ps := ["_law_error"]) (fun _ _ _ _ _ _ us hl => match us, hl with | [_], _ => rfl) fun f fd F => fn_okA [.un] F sc_law_marks (fun args Q E ⟨_, _, _, _, e, _⟩ => by subst e; rfl) fun cdv A a outer s H hr => ⟨_, (ss_cons (sx_set 1 sc_law_marks.nd (ex_lst (el_cons (ex_cb call_isX opn_isX T.n_isinstance boot_b_isinstance (ev_cons (ex_var 0) (ev_cons (ex_gl T.x_NoPlace) ev_nil))) (el_cons (ex_cb call_isX opn_isX T.n_isinstance boot_b_isinstance (ev_cons (ex_var 0) (ev_cons (ex_gl T.x_NoText) ev_nil))) (el_cons (ex_cb call_isX opn_isX T.n_isinstance boot_b_isinstance (ev_cons (ex_var 0) (ev_cons (ex_gl T.x_NoMaking) ev_nil))) el_nil)))))
    (ss_cons (sx_set 1 sc_law_marks.nd (ex_op op_addA op2_add (ex_var 1) (ex_lst (el_cons (ex_cb call_isX opn_isX T.n_isinstance boot_b_isinstance (ev_cons (ex_var 0) (ev_cons (ex_gl T.x_NoRow) ev_nil))) (el_cons (ex_cb call_isX opn_isX T.n_isinstance boot_b_isinstance (ev_cons (ex_var 0) (ev_cons (ex_gl T.x_TooGreat) ev_nil))) (el_cons (ex_cb call_isX opn_isX T.n_isinstance boot_b_isinstance (ev_cons (ex_var 0) (ev_cons (ex_gl T.x_TooLong) ev_nil))) el_nil))))))
    (ss_cons (sx_set 1 sc_law_marks.nd (ex_op op_addA op2_add (ex_var 1) (ex_lst (el_cons (ex_cb call_isX opn_isX T.n_isinstance boot_b_isinstance (ev_cons (ex_var 0) (ev_cons (ex_gl T.x_TooLarge) ev_nil))) (el_cons (ex_cb call_isX opn_isX T.n_isinstance boot_b_isinstance (ev_cons (ex_var 0) (ev_cons (ex_gl T.x_NoName) ev_nil))) (el_cons (ex_cb call_isX opn_isX T.n_isinstance boot_b_isinstance (ev_cons (ex_var 0) (ev_cons (ex_gl T.x_OtherStage) ev_nil))) el_nil))))))
    (ss_cons (sx_set 1 sc_law_marks.nd (ex_op op_addA op2_add (ex_var 1) (ex_lst (el_cons (ex_cb call_isX opn_isX T.n_isinstance boot_b_isinstance (ev_cons (ex_var 0) (ev_cons (ex_gl T.x_Shut) ev_nil))) (el_cons (ex_cb call_isX opn_isX T.n_isinstance boot_b_isinstance (ev_cons (ex_var 0) (ev_cons (ex_gl T.x_WrongKind) ev_nil))) (el_cons (ex_cb call_isX opn_isX T.n_isinstance boot_b_isinstance (ev_cons (ex_var 0) (ev_cons (ex_gl T.x_NoPiece) ev_nil))) el_nil))))))
    (ss_cons (sx_set 1 sc_law_marks.nd (ex_op op_addA op2_add (ex_var 1) (ex_lst (el_cons (ex_cb call_isX opn_isX T.n_isinstance boot_b_isinstance (ev_cons (ex_var 0) (ev_cons (ex_gl T.x_NoGap) ev_nil))) (el_cons (ex_cb call_isX opn_isX T.n_isinstance boot_b_isinstance (ev_cons (ex_var 0) (ev_cons (ex_gl T.x_Unlike) ev_nil))) (el_cons (ex_cb call_isX opn_isX T.n_isinstance boot_b_isinstance (ev_cons (ex_var 0) (ev_cons (ex_gl T.x_GapLeft) ev_nil))) el_nil))))))
    (ss_one (sx_ret (ex_op op_addA op2_add (ex_var 1) (ex_lst (el_cons (ex_cb call_isX opn_isX T.n_isinstance boot_b_isinstance (ev_cons (ex_var 0) (ev_cons (ex_gl T.x_NoRub) ev_nil))) el_nil)))))))))), ?_⟩
  rintro args Q E' ⟨i, C, ns, ds, rfl, hC, q⟩
  obtain ⟨⟨xc, em⟩, ⟨kG, kV⟩, ⟨hp, hs⟩, k0, k1, k2, k3, k4, k5, k6, k7, k8, k9, k10, k11, k12, k13, k14, k15⟩ := kit_all T i C hC
  unfold marks at q
  rw_mod_cast [xc, kG, kV, k0, k1, k2, k3, k4, k5, k6, k7, k8, k9, k10, k11, k12, k13, k14, k15, ar2, arIs, clsU_r, clsU_t, clsU_p, clsUs_n, clsUs_c, kitAny_e, kitAny_n]
  exact q
theorem mk_TooGreat (T : Tx K mg cl_GapError cl_NoPlace cl_NoText cl_NoMaking cl_NoRow cl_TooGreat cl_TooLong cl_TooLarge cl_NoName cl_OtherStage cl_Shut cl_WrongKind cl_NoPiece cl_NoGap cl_Unlike cl_GapLeft cl_NoRub) : MkX1 P w K mg base 1 "TooGreat" cl_TooGreat :=
  mkx1_of T.i1_TooGreat (fun _ _ _ _ _ _ us hl => match us, hl with | [_, _], _ => rfl) fun f fd F => F.ok sc_TooGreat___init__ spI1_len fun cdv A outer s H vs Q E hr hsp => ⟨_, pss_cons (ps_expr (pe_ginit T.rd_GapError T.e_GapError T.vi_GapError (pa_cons (pe_var (i := 0) rfl (.inl rfl) (by decide) (by decide)) (pa_cons pe_str pa_nil)))) (pss_one (ps_ost (pe_var (i := 0) rfl (.inl rfl) (by decide) (by decide)) (pe_var (i := 1) rfl (.inl rfl) (by decide) (by decide)))), tI1_ok rfl (fun _ _ h => h) hsp⟩
theorem mk_TooLong (T : Tx K mg cl_GapError cl_NoPlace cl_NoText cl_NoMaking cl_NoRow cl_TooGreat cl_TooLong cl_TooLarge cl_NoName cl_OtherStage cl_Shut cl_WrongKind cl_NoPiece cl_NoGap cl_Unlike cl_GapLeft cl_NoRub) : MkX1 P w K mg base 1 "TooLong" cl_TooLong :=
  mkx1_of T.i1_TooLong (fun _ _ _ _ _ _ us hl => match us, hl with | [_, _], _ => rfl) fun f fd F => F.ok sc_TooLong___init__ spI1_len fun cdv A outer s H vs Q E hr hsp => ⟨_, pss_cons (ps_expr (pe_ginit T.rd_GapError T.e_GapError T.vi_GapError (pa_cons (pe_var (i := 0) rfl (.inl rfl) (by decide) (by decide)) (pa_cons pe_str pa_nil)))) (pss_one (ps_ost (pe_var (i := 0) rfl (.inl rfl) (by decide) (by decide)) (pe_var (i := 1) rfl (.inl rfl) (by decide) (by decide)))), tI1_ok rfl (fun _ _ h => h) hsp⟩
theorem mk_TooLarge (T : Tx K mg cl_GapError cl_NoPlace cl_NoText cl_NoMaking cl_NoRow cl_TooGreat cl_TooLong cl_TooLarge cl_NoName cl_OtherStage cl_Shut cl_WrongKind cl_NoPiece cl_NoGap cl_Unlike cl_GapLeft cl_NoRub) : MkX1 P w K mg base 1 "TooLarge" cl_TooLarge :=
  mkx1_of T.i1_TooLarge (fun _ _ _ _ _ _ us hl => match us, hl with | [_, _], _ => rfl) fun f fd F => F.ok sc_TooLarge___init__ spI1_len fun cdv A outer s H vs Q E hr hsp => ⟨_, pss_cons (ps_expr (pe_ginit T.rd_GapError T.e_GapError T.vi_GapError (pa_cons (pe_var (i := 0) rfl (.inl rfl) (by decide) (by decide)) (pa_cons pe_str pa_nil)))) (pss_one (ps_ost (pe_var (i := 0) rfl (.inl rfl) (by decide) (by decide)) (pe_var (i := 1) rfl (.inl rfl) (by decide) (by decide)))), tI1_ok rfl (fun _ _ h => h) hsp⟩
theorem mk_NoName (T : Tx K mg cl_GapError cl_NoPlace cl_NoText cl_NoMaking cl_NoRow cl_TooGreat cl_TooLong cl_TooLarge cl_NoName cl_OtherStage cl_Shut cl_WrongKind cl_NoPiece cl_NoGap cl_Unlike cl_GapLeft cl_NoRub) : MkX P w K mg base 1 "NoName" cl_NoName :=
  mkx_of T.i2_NoName (fun _ _ _ _ _ _ us hl => match us, hl with | [_, _, _], _ => rfl) fun f fd F => F.ok sc_NoName___init__ spI2_len fun cdv A outer s H vs Q E hr hsp => ⟨_, pss_cons (ps_expr (pe_ginit T.rd_GapError T.e_GapError T.vi_GapError (pa_cons (pe_var (i := 0) rfl (.inl rfl) (by decide) (by decide)) (pa_cons pe_str pa_nil)))) (pss_cons (ps_ost (pe_var (i := 0) rfl (.inl rfl) (by decide) (by decide)) (pe_var (i := 1) rfl (.inl rfl) (by decide) (by decide))) (pss_one (ps_ost (pe_var (i := 0) rfl (.inl rfl) (by decide) (by decide)) (pe_var (i := 2) rfl (.inl rfl) (by decide) (by decide))))), tI2_ok rfl (fun _ _ h => h) hsp⟩
theorem mk_OtherStage (T : Tx K mg cl_GapError cl_NoPlace cl_NoText cl_NoMaking cl_NoRow cl_TooGreat cl_TooLong cl_TooLarge cl_NoName cl_OtherStage cl_Shut cl_WrongKind cl_NoPiece cl_NoGap cl_Unlike cl_GapLeft cl_NoRub) : MkX P w K mg base 1 "OtherStage" cl_OtherStage :=
  mkx_of T.i2_OtherStage (fun _ _ _ _ _ _ us hl => match us, hl with | [_, _, _], _ => rfl) fun f fd F => F.ok sc_OtherStage___init__ spI2_len fun cdv A outer s H vs Q E hr hsp => ⟨_, pss_cons (ps_expr (pe_ginit T.rd_GapError T.e_GapError T.vi_GapError (pa_cons (pe_var (i := 0) rfl (.inl rfl) (by decide) (by decide)) (pa_cons pe_str pa_nil)))) (pss_cons (ps_ost (pe_var (i := 0) rfl (.inl rfl) (by decide) (by decide)) (pe_var (i := 1) rfl (.inl rfl) (by decide) (by decide))) (pss_one (ps_ost (pe_var (i := 0) rfl (.inl rfl) (by decide) (by decide)) (pe_var (i := 2) rfl (.inl rfl) (by decide) (by decide))))), tI2_ok rfl (fun _ _ h => h) hsp⟩
theorem mk_Shut (T : Tx K mg cl_GapError cl_NoPlace cl_NoText cl_NoMaking cl_NoRow cl_TooGreat cl_TooLong cl_TooLarge cl_NoName cl_OtherStage cl_Shut cl_WrongKind cl_NoPiece cl_NoGap cl_Unlike cl_GapLeft cl_NoRub) : MkX P w K mg base 1 "Shut" cl_Shut :=
  mkx_of T.i2_Shut (fun _ _ _ _ _ _ us hl => match us, hl with | [_, _, _], _ => rfl) fun f fd F => F.ok sc_Shut___init__ spI2_len fun cdv A outer s H vs Q E hr hsp => ⟨_, pss_cons (ps_expr (pe_ginit T.rd_GapError T.e_GapError T.vi_GapError (pa_cons (pe_var (i := 0) rfl (.inl rfl) (by decide) (by decide)) (pa_cons pe_str pa_nil)))) (pss_cons (ps_ost (pe_var (i := 0) rfl (.inl rfl) (by decide) (by decide)) (pe_var (i := 1) rfl (.inl rfl) (by decide) (by decide))) (pss_one (ps_ost (pe_var (i := 0) rfl (.inl rfl) (by decide) (by decide)) (pe_var (i := 2) rfl (.inl rfl) (by decide) (by decide))))), tI2_ok rfl (fun _ _ h => h) hsp⟩
theorem mk_WrongKind (T : Tx K mg cl_GapError cl_NoPlace cl_NoText cl_NoMaking cl_NoRow cl_TooGreat cl_TooLong cl_TooLarge cl_NoName cl_OtherStage cl_Shut cl_WrongKind cl_NoPiece cl_NoGap cl_Unlike cl_GapLeft cl_NoRub) : MkX P w K mg base 1 "WrongKind" cl_WrongKind :=
  mkx_of T.i2_WrongKind (fun _ _ _ _ _ _ us hl => match us, hl with | [_, _, _], _ => rfl) fun f fd F => F.ok sc_WrongKind___init__ spI2_len fun cdv A outer s H vs Q E hr hsp => ⟨_, pss_cons (ps_expr (pe_ginit T.rd_GapError T.e_GapError T.vi_GapError (pa_cons (pe_var (i := 0) rfl (.inl rfl) (by decide) (by decide)) (pa_cons pe_str pa_nil)))) (pss_cons (ps_ost (pe_var (i := 0) rfl (.inl rfl) (by decide) (by decide)) (pe_var (i := 1) rfl (.inl rfl) (by decide) (by decide))) (pss_one (ps_ost (pe_var (i := 0) rfl (.inl rfl) (by decide) (by decide)) (pe_var (i := 2) rfl (.inl rfl) (by decide) (by decide))))), tI2_ok rfl (fun _ _ h => h) hsp⟩
theorem mk_NoPiece (T : Tx K mg cl_GapError cl_NoPlace cl_NoText cl_NoMaking cl_NoRow cl_TooGreat cl_TooLong cl_TooLarge cl_NoName cl_OtherStage cl_Shut cl_WrongKind cl_NoPiece cl_NoGap cl_Unlike cl_GapLeft cl_NoRub) : MkX P w K mg base 1 "NoPiece" cl_NoPiece :=
  mkx_of T.i2_NoPiece (fun _ _ _ _ _ _ us hl => match us, hl with | [_, _, _], _ => rfl) fun f fd F => F.ok sc_NoPiece___init__ spI2_len fun cdv A outer s H vs Q E hr hsp => ⟨_, pss_cons (ps_expr (pe_ginit T.rd_GapError T.e_GapError T.vi_GapError (pa_cons (pe_var (i := 0) rfl (.inl rfl) (by decide) (by decide)) (pa_cons pe_str pa_nil)))) (pss_cons (ps_ost (pe_var (i := 0) rfl (.inl rfl) (by decide) (by decide)) (pe_var (i := 1) rfl (.inl rfl) (by decide) (by decide))) (pss_one (ps_ost (pe_var (i := 0) rfl (.inl rfl) (by decide) (by decide)) (pe_var (i := 2) rfl (.inl rfl) (by decide) (by decide))))), tI2_ok rfl (fun _ _ h => h) hsp⟩
theorem mk_NoGap (T : Tx K mg cl_GapError cl_NoPlace cl_NoText cl_NoMaking cl_NoRow cl_TooGreat cl_TooLong cl_TooLarge cl_NoName cl_OtherStage cl_Shut cl_WrongKind cl_NoPiece cl_NoGap cl_Unlike cl_GapLeft cl_NoRub) : MkX P w K mg base 1 "NoGap" cl_NoGap :=
  mkx_of T.i2_NoGap (fun _ _ _ _ _ _ us hl => match us, hl with | [_, _, _], _ => rfl) fun f fd F => F.ok sc_NoGap___init__ spI2_len fun cdv A outer s H vs Q E hr hsp => ⟨_, pss_cons (ps_expr (pe_ginit T.rd_GapError T.e_GapError T.vi_GapError (pa_cons (pe_var (i := 0) rfl (.inl rfl) (by decide) (by decide)) (pa_cons pe_str pa_nil)))) (pss_cons (ps_ost (pe_var (i := 0) rfl (.inl rfl) (by decide) (by decide)) (pe_var (i := 1) rfl (.inl rfl) (by decide) (by decide))) (pss_one (ps_ost (pe_var (i := 0) rfl (.inl rfl) (by decide) (by decide)) (pe_var (i := 2) rfl (.inl rfl) (by decide) (by decide))))), tI2_ok rfl (fun _ _ h => h) hsp⟩
theorem mk_Unlike (T : Tx K mg cl_GapError cl_NoPlace cl_NoText cl_NoMaking cl_NoRow cl_TooGreat cl_TooLong cl_TooLarge cl_NoName cl_OtherStage cl_Shut cl_WrongKind cl_NoPiece cl_NoGap cl_Unlike cl_GapLeft cl_NoRub) : MkX P w K mg base 1 "Unlike" cl_Unlike :=
  mkx_of T.i2_Unlike (fun _ _ _ _ _ _ us hl => match us, hl with | [_, _, _], _ => rfl) fun f fd F => F.ok sc_Unlike___init__ spI2_len fun cdv A outer s H vs Q E hr hsp => ⟨_, pss_cons (ps_expr (pe_ginit T.rd_GapError T.e_GapError T.vi_GapError (pa_cons (pe_var (i := 0) rfl (.inl rfl) (by decide) (by decide)) (pa_cons pe_str pa_nil)))) (pss_cons (ps_ost (pe_var (i := 0) rfl (.inl rfl) (by decide) (by decide)) (pe_var (i := 1) rfl (.inl rfl) (by decide) (by decide))) (pss_one (ps_ost (pe_var (i := 0) rfl (.inl rfl) (by decide) (by decide)) (pe_var (i := 2) rfl (.inl rfl) (by decide) (by decide))))), tI2_ok rfl (fun _ _ h => h) hsp⟩
theorem mk_GapLeft (T : Tx K mg cl_GapError cl_NoPlace cl_NoText cl_NoMaking cl_NoRow cl_TooGreat cl_TooLong cl_TooLarge cl_NoName cl_OtherStage cl_Shut cl_WrongKind cl_NoPiece cl_NoGap cl_Unlike cl_GapLeft cl_NoRub) : MkX P w K mg base 1 "GapLeft" cl_GapLeft :=
  mkx_of T.i2_GapLeft (fun _ _ _ _ _ _ us hl => match us, hl with | [_, _, _], _ => rfl) fun f fd F => F.ok sc_GapLeft___init__ spI2_len fun cdv A outer s H vs Q E hr hsp => ⟨_, pss_cons (ps_expr (pe_ginit T.rd_GapError T.e_GapError T.vi_GapError (pa_cons (pe_var (i := 0) rfl (.inl rfl) (by decide) (by decide)) (pa_cons pe_str pa_nil)))) (pss_cons (ps_ost (pe_var (i := 0) rfl (.inl rfl) (by decide) (by decide)) (pe_var (i := 1) rfl (.inl rfl) (by decide) (by decide))) (pss_one (ps_ost (pe_var (i := 0) rfl (.inl rfl) (by decide) (by decide)) (pe_var (i := 2) rfl (.inl rfl) (by decide) (by decide))))), tI2_ok rfl (fun _ _ h => h) hsp⟩
theorem mk_NoRub (T : Tx K mg cl_GapError cl_NoPlace cl_NoText cl_NoMaking cl_NoRow cl_TooGreat cl_TooLong cl_TooLarge cl_NoName cl_OtherStage cl_Shut cl_WrongKind cl_NoPiece cl_NoGap cl_Unlike cl_GapLeft cl_NoRub) : MkX P w K mg base 1 "NoRub" cl_NoRub :=
  mkx_of T.i2_NoRub (fun _ _ _ _ _ _ us hl => match us, hl with | [_, _, _], _ => rfl) fun f fd F => F.ok sc_NoRub___init__ spI2_len fun cdv A outer s H vs Q E hr hsp => ⟨_, pss_cons (ps_expr (pe_ginit T.rd_GapError T.e_GapError T.vi_GapError (pa_cons (pe_var (i := 0) rfl (.inl rfl) (by decide) (by decide)) (pa_cons pe_str pa_nil)))) (pss_cons (ps_ost (pe_var (i := 0) rfl (.inl rfl) (by decide) (by decide)) (pe_var (i := 1) rfl (.inl rfl) (by decide) (by decide))) (pss_one (ps_ost (pe_var (i := 0) rfl (.inl rfl) (by decide) (by decide)) (pe_var (i := 2) rfl (.inl rfl) (by decide) (by decide))))), tI2_ok rfl (fun _ _ h => h) hsp⟩
theorem ok_errs (T : Tx K mg cl_GapError cl_NoPlace cl_NoText cl_NoMaking cl_NoRow cl_TooGreat cl_TooLong cl_TooLarge cl_NoName cl_OtherStage cl_Shut cl_WrongKind cl_NoPiece cl_NoGap cl_Unlike cl_GapLeft cl_NoRub) : FnC P w K mg base CX0 3 "_law_errors" (sp_errs [cl_NoPlace, cl_NoText, cl_NoMaking, cl_NoRow, cl_TooGreat, cl_TooLong, cl_TooLarge, cl_NoName, cl_OtherStage, cl_Shut, cl_WrongKind, cl_NoPiece, cl_NoGap, cl_Unlike, cl_GapLeft, cl_NoRub]) := by
  have X_TooGreat : MkX1 P w K mg base 1 "TooGreat" cl_TooGreat := mk_TooGreat T
  have X_TooLong : MkX1 P w K mg base 1 "TooLong" cl_TooLong := mk_TooLong T
  have X_TooLarge : MkX1 P w K mg base 1 "TooLarge" cl_TooLarge := mk_TooLarge T
  have X_NoName : MkX P w K mg base 1 "NoName" cl_NoName := mk_NoName T
  have X_OtherStage : MkX P w K mg base 1 "OtherStage" cl_OtherStage := mk_OtherStage T
  have X_Shut : MkX P w K mg base 1 "Shut" cl_Shut := mk_Shut T
  have X_WrongKind : MkX P w K mg base 1 "WrongKind" cl_WrongKind := mk_WrongKind T
  have X_NoPiece : MkX P w K mg base 1 "NoPiece" cl_NoPiece := mk_NoPiece T
  have X_NoGap : MkX P w K mg base 1 "NoGap" cl_NoGap := mk_NoGap T
  have X_Unlike : MkX P w K mg base 1 "Unlike" cl_Unlike := mk_Unlike T
  have X_GapLeft : MkX P w K mg base 1 "GapLeft" cl_GapLeft := mk_GapLeft T
  have X_NoRub : MkX P w K mg base 1 "NoRub" cl_NoRub := mk_NoRub T
  refine fnc_of T.f_law_errors (ps := ["_law_place", "_law_stage"]) (fun _ _ _ _ _ _ us hl => match us, hl with | [_, _], _ => rfl) fun f fd F => fn_ok [.un, .un, .un] F sc_law_errors (fun args Q E ⟨_, _, e, _⟩ => by subst e; rfl) fun cdv A outer s H E hr => ⟨_, (ss_cons (sx_set 2 sc_law_errors.nd (ex_lst (el_cons (ex_mkv0 T.r_NoPlace) (el_cons (ex_mkv0 T.r_NoText) (el_cons (ex_mkv0 T.r_NoMaking) (el_cons (ex_mkv0 T.r_NoRow) el_nil))))))
    (ss_cons (sx_set 3 sc_law_errors.nd (ex_lst (el_cons (ex_mkv1 X_TooGreat hr (el_cons (ex_var 0) el_nil)) (el_cons (ex_mkv1 X_TooLong hr (el_cons (ex_var 0) el_nil)) (el_cons (ex_mkv1 X_TooLarge hr (el_cons (ex_var 0) el_nil)) el_nil)))))
    (ss_cons (sx_set 4 sc_law_errors.nd (ex_lst (el_cons (ex_mkv2 X_NoName hr (el_cons (ex_var 0) (el_cons (ex_var 1) el_nil))) (el_cons (ex_mkv2 X_OtherStage hr (el_cons (ex_var 0) (el_cons (ex_var 1) el_nil))) (el_cons (ex_mkv2 X_Shut hr (el_cons (ex_var 0) (el_cons (ex_var 1) el_nil))) (el_cons (ex_mkv2 X_WrongKind hr (el_cons (ex_var 0) (el_cons (ex_var 1) el_nil))) el_nil))))))
    (ss_cons (sx_set 4 sc_law_errors.nd (ex_op op_addA op2_add (ex_var 4) (ex_lst (el_cons (ex_mkv2 X_NoPiece hr (el_cons (ex_var 0) (el_cons (ex_var 1) el_nil))) (el_cons (ex_mkv2 X_NoGap hr (el_cons (ex_var 0) (el_cons (ex_var 1) el_nil))) (el_cons (ex_mkv2 X_Unlike hr (el_cons (ex_var 0) (el_cons (ex_var 1) el_nil))) (el_cons (ex_mkv2 X_GapLeft hr (el_cons (ex_var 0) (el_cons (ex_var 1) el_nil))) el_nil)))))))
    (ss_one (sx_ret (ex_op op_addA op2_add (ex_op op_addA op2_add (ex_op op_addA op2_add (ex_var 2) (ex_var 3)) (ex_var 4)) (ex_lst (el_cons (ex_mkv2 X_NoRub hr (el_cons (ex_var 0) (el_cons (ex_var 1) el_nil))) el_nil))))))))), ?_⟩
  rintro args Q E' ⟨pl, st, rfl, q⟩
  have e : exsL [cl_NoPlace, cl_NoText, cl_NoMaking, cl_NoRow, cl_TooGreat, cl_TooLong, cl_TooLarge, cl_NoName, cl_OtherStage, cl_Shut, cl_WrongKind, cl_NoPiece, cl_NoGap, cl_Unlike, cl_GapLeft, cl_NoRub] pl st = [.exc (.ref cl_NoPlace) [] [], .exc (.ref cl_NoText) [] [], .exc (.ref cl_NoMaking) [] [], .exc (.ref cl_NoRow) [] [], .exc (.ref cl_TooGreat) ["place"] [pl], .exc (.ref cl_TooLong) ["place"] [pl], .exc (.ref cl_TooLarge) ["place"] [pl], .exc (.ref cl_NoName) ["stage", "place"] [st, pl], .exc (.ref cl_OtherStage) ["stage", "place"] [st, pl], .exc (.ref cl_Shut) ["stage", "place"] [st, pl], .exc (.ref cl_WrongKind) ["stage", "place"] [st, pl], .exc (.ref cl_NoPiece) ["stage", "place"] [st, pl], .exc (.ref cl_NoGap) ["stage", "place"] [st, pl], .exc (.ref cl_Unlike) ["stage", "place"] [st, pl], .exc (.ref cl_GapLeft) ["stage", "place"] [st, pl], .exc (.ref cl_NoRub) ["stage", "place"] [st, pl]] := rfl
  rw [e] at q
  rw_mod_cast []
  exact q
theorem cnt3 : cntD (.bl true) (marks 3) = 1 := by decide +kernel
theorem cnt5 : cntD (.bl true) (marks 5) = 1 := by decide +kernel
theorem cnt9 : cntD (.bl true) (marks 9) = 1 := by decide +kernel
theorem fst3 : firstD (.bl true) (marks 3) = some 3 := by decide +kernel
theorem fst5 : firstD (.bl true) (marks 5) = some 5 := by decide +kernel
theorem fst9 : firstD (.bl true) (marks 9) = some 9 := by decide +kernel
theorem ok_caught (T : Tx K mg cl_GapError cl_NoPlace cl_NoText cl_NoMaking cl_NoRow cl_TooGreat cl_TooLong cl_TooLarge cl_NoName cl_OtherStage cl_Shut cl_WrongKind cl_NoPiece cl_NoGap cl_Unlike cl_GapLeft cl_NoRub) : FnC P w K mg base CX0 5 "_law_caught" sp_caught := by
  have C_law_marks : FnCA P w K mg base 4 "_law_marks" (sp_marks [cl_NoPlace, cl_NoText, cl_NoMaking, cl_NoRow, cl_TooGreat, cl_TooLong, cl_TooLarge, cl_NoName, cl_OtherStage, cl_Shut, cl_WrongKind, cl_NoPiece, cl_NoGap, cl_Unlike, cl_GapLeft, cl_NoRub]) := (ok_marksA T).mono (by decide)
  have X_TooLong : MkX1 P w K mg base 3 "TooLong" cl_TooLong := (mk_TooLong T).mono (by decide)
  have X_Shut : MkX P w K mg base 3 "Shut" cl_Shut := (mk_Shut T).mono (by decide)
  refine fnc_of T.f_law_caught (ps := ["_law_place", "_law_stage", "_law_way"]) (fun _ _ _ _ _ _ us hl => match us, hl with | [_, _, _], _ => rfl) fun f fd F => fn_ok [.un, .un] F sc_law_caught (fun args Q E ⟨_, _, _, e, _⟩ => by subst e; rfl) fun cdv A outer s H E hr => ⟨_, (ss_cons (sx_set 3 sc_law_caught.nd (ex_lst el_nil))
    (ss_cons (sx_try0 4 sc_law_caught.nd ⟨rfl, by decide, .inl T.e_GapError⟩ (fun W pn xe tk pw => (ss_cons (sx_if (et_cmp (op_eqA hr.units) op2_eq (ex_var 2) ex_int (nomark _)) (ss_one (sx_raise0 T.r_NoRow tk)) ss_nil)
    (ss_cons (sx_if (et_cmp (op_eqA hr.units) op2_eq (ex_var 2) ex_int (nomark _)) (ss_one (sx_raise1x X_TooLong hr tk (el_cons (ex_var 0) el_nil))) ss_nil)
    (ss_one (sx_raise2x X_Shut hr tk (el_cons (ex_var 0) (el_cons (ex_var 1) el_nil))))))) (fun a pn => (ss_one (sx_set 3 sc_law_caught.nd (ex_callA C_law_marks (hotRoom hr _) (a := a) rfl (ev_cons (ex_var 4) ev_nil))))))
    (ss_one (sx_ret (ex_and (ex_cmp (op_eqA hr.units) op2_eq (ex_lm PySem.F.plainAttrs_list PySem.F.slot_list_count PySem.F.type_list_count mt_countF mtl_count (ex_var 3) (ev_cons ex_bl ev_nil)) ex_int (nomark _)) (ex_one (ex_cmp (op_eqA hr.units) op2_eq (ex_lm PySem.F.plainAttrs_list PySem.F.slot_list_index PySem.F.type_list_index mt_index mtl_index (ex_var 3) (ev_cons ex_bl ev_nil)) (ex_ix (ix_any (hu_of hr)) op2_ix (ex_lst (el_cons ex_int (el_cons ex_int (el_cons ex_int el_nil)))) (ex_var 2)) (nomark _)))))))), ?_⟩
  rintro args Q E' ⟨pl, st, w, rfl, w0, w1, q⟩
  have hw : w = 0 ∨ w = 1 ∨ w = 2 := by omega
  rcases hw with rfl | rfl | rfl
  · rw_mod_cast []
    rw [kCatch_x T.em_NoRow]
    rw_mod_cast []
    refine ⟨3, cl_NoRow, _, _, rfl, rfl, ?_⟩
    rw_mod_cast [cnt3, fst3, mk_flat, arCnt, arIdx]
    exact q
  · rw_mod_cast []
    rw [kCatch_x T.em_TooLong]
    rw_mod_cast []
    refine ⟨5, cl_TooLong, _, _, rfl, rfl, ?_⟩
    rw_mod_cast [cnt5, fst5, mk_flat, arCnt, arIdx]
    exact q
  · rw_mod_cast []
    rw [kCatch_x T.em_Shut]
    rw_mod_cast []
    refine ⟨9, cl_Shut, _, _, rfl, rfl, ?_⟩
    rw_mod_cast [cnt9, fst9, mk_flat, arCnt, arIdx]
    exact q
theorem ok_good (T : Tx K mg cl_GapError cl_NoPlace cl_NoText cl_NoMaking cl_NoRow cl_TooGreat cl_TooLong cl_TooLarge cl_NoName cl_OtherStage cl_Shut cl_WrongKind cl_NoPiece cl_NoGap cl_Unlike cl_GapLeft cl_NoRub) : FnC P w K mg base CX0 5 "_law_good" (sp_good [cl_NoPlace, cl_NoText, cl_NoMaking, cl_NoRow, cl_TooGreat, cl_TooLong, cl_TooLarge, cl_NoName, cl_OtherStage, cl_Shut, cl_WrongKind, cl_NoPiece, cl_NoGap, cl_Unlike, cl_GapLeft, cl_NoRub]) := by
  have C_law_marks : FnC P w K mg base CX0 4 "_law_marks" (sp_marks [cl_NoPlace, cl_NoText, cl_NoMaking, cl_NoRow, cl_TooGreat, cl_TooLong, cl_TooLarge, cl_NoName, cl_OtherStage, cl_Shut, cl_WrongKind, cl_NoPiece, cl_NoGap, cl_Unlike, cl_GapLeft, cl_NoRub]) := (ok_marks T).mono (by decide)
  refine fnc_of T.f_law_good (ps := ["_law_k", "_law_error", "_law_place", "_law_stage"]) (fun _ _ _ _ _ _ us hl => match us, hl with | [_, _, _, _], _ => rfl) fun f fd F => fn_ok [.un] F sc_law_good (fun args Q E ⟨_, _, _, _, e, _⟩ => by subst e; rfl) fun cdv A outer s H E hr => ⟨_, (ss_cons (sx_if (et_cmp (op_neA hr.units) op2_ne (ex_callN C_law_marks hr (ev_cons (ex_var 1) ev_nil)) (ex_lc sc_law_good.nd rfl (ix_range1 (ev_cons ex_int ev_nil) T.n_range) (blkOk_by (N := ["_law_k", "_law_error", "_law_place", "_law_stage", "_law_other"]) (sc := defScope s_law_good) (own := [("_law_other", 4)]) (by decide +kernel)) (fun _ _ _ _ _ => (go_name 4 (by simp) sc_law_good.nd)) (fun _ _ _ _ _ => ets_nil) (fun _ _ _ _ _ => (ex_cmp (op_eqA hr.units) op2_eq (ex_var 4) (ex_var 0) (nomark _)))) (nomark _)) (ss_one (sx_ret ex_bl)) ss_nil)
    (ss_cons (sx_if (et_w (ew_or (et_not (et_val (ex_cb call_isX opn_isX T.n_isinstance boot_b_isinstance (ev_cons (ex_var 1) (ev_cons (ex_gl T.x_GapError) ev_nil))))) (ew_or1 (et_not (et_val (ex_cb call_isX opn_isX T.n_isinstance boot_b_isinstance (ev_cons (ex_var 1) (ev_cons (ex_bty T.n_ValueError boot_t_ValueError) ev_nil)))))))) (ss_one (sx_ret ex_bl)) ss_nil)
    (ss_cons (sx_if (et_w (ew_and (et_cmp op_gt op2_gt (ex_var 0) ex_int (nomark _)) (ew_and1 (et_cmp (op_neA hr.units) op2_ne (ex_xf (K := K) (ex_var 1)) (ex_var 2) (nomark _))))) (ss_one (sx_ret ex_bl)) ss_nil)
    (ss_one (sx_ret (ex_or (ex_cmp op_ltA op2_ltA (ex_var 0) ex_int (nomark _)) (ex_one (ex_cmp (op_eqA hr.units) op2_eq (ex_xf (K := K) (ex_var 1)) (ex_var 3) (nomark _))))))))), ?_⟩
  rintro args Q E' ⟨i, C, ns, s, rfl, hC, q⟩
  obtain ⟨⟨xc, em⟩, ⟨kG, kV⟩, ⟨hp, hs⟩, k0, k1, k2, k3, k4, k5, k6, k7, k8, k9, k10, k11, k12, k13, k14, k15⟩ := kit_all T i C hC
  have hi : i < 16 := by
    have := (List.getElem?_eq_some_iff.mp hC).1
    simpa using this
  have hm := mk_sh i
  have he := mk_eq i
  have ps := pl_sh ns
  have pe := pl_eq ns
  by_cases h4 : i < 4
  · have e : exOf C (.tup (ns.map D.int)) (.int s) i = .exc (.ref C) [] [] := if_pos h4
    have g3 : ¬ ((i : Int) > 3) := by omega
    have g7 : (i : Int) < 7 := by omega
    rw [e] at q ⊢
    rw_mod_cast []
    refine ⟨i, C, _, _, rfl, hC, ?_⟩
    rw_mod_cast []
    refine compL_fm (fI i) ?_ ?_
    · intro R d acc hd ha hR
      obtain ⟨j, hj, rfl⟩ := mem_rg hd
      have g1 : acc.length < 16777216 := by rw [rg_len] at ha; omega
      have e : fI i (.int (0 + (j : Int))) = some (.bl (decide (0 + (j : Int) = i))) := rfl
      rw [e] at hR
      rw_mod_cast [g1]
      exact hR
    rw [comp_marks i hi]
    rw_mod_cast [hm, he, g3, g7, xc, kG, kV, ar2, arIs, clsU_r, clsU_t, clsU_p, kitAny_e, kitAny_n]
    exact q
  obtain ⟨xf, fp⟩ := hp (by omega)
  have g3 : (i : Int) > 3 := by omega
  by_cases h7 : i < 7
  · have e : exOf C (.tup (ns.map D.int)) (.int s) i = .exc (.ref C) ["place"] [.tup (ns.map D.int)] := by unfold exOf; rw [if_neg h4, if_pos h7]
    have g7 : (i : Int) < 7 := by omega
    rw [e] at q ⊢
    rw_mod_cast []
    refine ⟨i, C, _, _, rfl, hC, ?_⟩
    rw_mod_cast []
    refine compL_fm (fI i) ?_ ?_
    · intro R d acc hd ha hR
      obtain ⟨j, hj, rfl⟩ := mem_rg hd
      have g1 : acc.length < 16777216 := by rw [rg_len] at ha; omega
      have e : fI i (.int (0 + (j : Int))) = some (.bl (decide (0 + (j : Int) = i))) := rfl
      rw [e] at hR
      rw_mod_cast [g1]
      exact hR
    rw [comp_marks i hi]
    rw_mod_cast [hm, he, g3, g7, xf, fp, ps, pe, xc, kG, kV, ar2, arIs, clsU_r, clsU_t, clsU_p, kitAny_e, kitAny_n]
    exact q
  · have e : exOf C (.tup (ns.map D.int)) (.int s) i = .exc (.ref C) ["stage", "place"] [.int s, .tup (ns.map D.int)] := by unfold exOf; rw [if_neg h4, if_neg h7]
    have g7 : ¬ (i : Int) < 7 := by omega
    have fs := hs (by omega)
    have ne : (Str.ofString "place" = Str.ofString "stage") = False := eq_false (of_decide_eq_false (by decide +kernel))
    rw [e] at q ⊢
    rw_mod_cast []
    refine ⟨i, C, _, _, rfl, hC, ?_⟩
    rw_mod_cast []
    refine compL_fm (fI i) ?_ ?_
    · intro R d acc hd ha hR
      obtain ⟨j, hj, rfl⟩ := mem_rg hd
      have g1 : acc.length < 16777216 := by rw [rg_len] at ha; omega
      have e : fI i (.int (0 + (j : Int))) = some (.bl (decide (0 + (j : Int) = i))) := rfl
      rw [e] at hR
      rw_mod_cast [g1]
      exact hR
    rw [comp_marks i hi]
    rw_mod_cast [hm, he, ne, g3, g7, xf, fp, fs, ps, pe, xc, kG, kV, ar2, arIs, clsU_r, clsU_t, clsU_p, kitAny_e, kitAny_n]
    exact q
theorem ok_law (T : Tx K mg cl_GapError cl_NoPlace cl_NoText cl_NoMaking cl_NoRow cl_TooGreat cl_TooLong cl_TooLarge cl_NoName cl_OtherStage cl_Shut cl_WrongKind cl_NoPiece cl_NoGap cl_Unlike cl_GapLeft cl_NoRub) (f : Addr) (fd : FuncData) (F : Fun K "law" "law" s_law f fd) : FnOk P w K mg base CX0 30 f fd ["_law_script"] (spOf K sp_law) := by
  have C_law_pot : FnC P w K mg base CX0 29 "_law_pot" sp_pot := (ok_pot T).mono (by decide)
  have C_law_draw : FnC P w K mg base CX0 29 "_law_draw" sp_draw := (ok_draw T).mono (by decide)
  have C_law_caught : FnC P w K mg base CX0 29 "_law_caught" sp_caught := (ok_caught T).mono (by decide)
  have C_law_good : FnC P w K mg base CX0 29 "_law_good" (sp_good [cl_NoPlace, cl_NoText, cl_NoMaking, cl_NoRow, cl_TooGreat, cl_TooLong, cl_TooLarge, cl_NoName, cl_OtherStage, cl_Shut, cl_WrongKind, cl_NoPiece, cl_NoGap, cl_Unlike, cl_GapLeft, cl_NoRub]) := (ok_good T).mono (by decide)
  have C_law_errors : FnC P w K mg base CX0 29 "_law_errors" (sp_errs [cl_NoPlace, cl_NoText, cl_NoMaking, cl_NoRow, cl_TooGreat, cl_TooLong, cl_TooLarge, cl_NoName, cl_OtherStage, cl_Shut, cl_WrongKind, cl_NoPiece, cl_NoGap, cl_Unlike, cl_GapLeft, cl_NoRub]) := (ok_errs T).mono (by decide)
  have X_NoRub : MkX P w K mg base 28 "NoRub" cl_NoRub := (mk_NoRub T).mono (by decide)
  refine fn_ok [.un, .un, .un, .un, .un, .un, .un] F sc_law (fun args Q E ⟨_, e, _⟩ => by subst e; rfl) fun cdv A outer s H E hr => ⟨_, (ss_cons (sx_setO 1 sc_law.nd (ex_callN C_law_pot hr (ev_cons (ex_var 0) ev_nil)))
    (ss_cons (sx_for PassesOwn.never rfl (ix_range1 (ev_cons (ex_cb (call_max2 rfl) opn_ii T.n_max boot_b_max (ev_cons ex_int (ev_cons (ex_cb (call_min2 rfl) opn_ii T.n_min boot_b_min (ev_cons ex_int (ev_cons (ex_cb call_lenA opn_len T.n_len boot_b_len (ev_cons (ex_var 0) ev_nil)) ev_nil))) ev_nil))) ev_nil) T.n_range) (gx_name 2 sc_law.nd) (ss_clr [2] (ss_cons (sx_set 3 sc_law.nd (ex_cty call_tuple_of opn_tuple T.n_tuple boot_t_tuple (ev_cons (ex_lc sc_law.nd rfl (ix_range1 (ev_cons (ex_callN C_law_draw hr (ev_cons (ex_var 1) (ev_cons ex_int ev_nil))) ev_nil) T.n_range) (blkOk_by (N := ["_law_script", "_law_pot_here", "_law_turn", "_law_place", "_law_stage", "_law_last", "_law_k", "_law_error"]) (sc := defScope s_law) (own := [("_law_k", 6)]) (by decide +kernel)) (fun _ _ _ _ _ => (go_name 6 (by simp) sc_law.nd)) (fun _ _ _ _ _ => ets_nil) (fun _ _ _ _ _ => (ex_callN C_law_draw hr (ev_cons (ex_var 1) (ev_cons ex_int ev_nil))))) ev_nil)))
    (ss_cons (sx_set 4 sc_law.nd (ex_op op_sub op2_sub (ex_callN C_law_draw hr (ev_cons (ex_var 1) (ev_cons ex_int ev_nil))) ex_int))
    (ss_cons (sx_if (et_not (et_val (ex_callN C_law_caught hr (ev_cons (ex_var 3) (ev_cons (ex_var 4) (ev_cons (ex_callN C_law_draw hr (ev_cons (ex_var 1) (ev_cons ex_int ev_nil))) ev_nil)))))) (ss_one (sx_ret ex_bl)) ss_nil)
    (ss_one (sx_if (et_not (et_val (ex_cb (cr_all rfl) opn_all T.n_all boot_b_all (ev_cons (ex_lc sc_law.nd rfl (ix_enum T.n_enumerate (el_cons (ex_callN C_law_errors hr (ev_cons (ex_var 3) (ev_cons (ex_var 4) ev_nil))) el_nil)) (blkOk_by (N := ["_law_script", "_law_pot_here", "_law_turn", "_law_place", "_law_stage", "_law_last", "_law_k", "_law_error"]) (sc := defScope s_law) (own := [("_law_k", 6), ("_law_error", 7)]) (by decide +kernel)) (fun _ _ _ _ _ => (go_tup rfl (gos_cons (go_name 6 (by simp) sc_law.nd) (gos_cons (go_name 7 (by simp) sc_law.nd) gos_nil)))) (fun _ _ _ _ _ => ets_nil) (fun _ _ _ _ _ => (ex_callN C_law_good hr (ev_cons (ex_var 6) (ev_cons (ex_var 7) (ev_cons (ex_var 3) (ev_cons (ex_var 4) ev_nil))))))) ev_nil)))) (ss_one (sx_ret ex_bl)) ss_nil)))))))
    (ss_cons (sx_set 5 sc_law.nd (ex_mkv2 X_NoRub hr (el_cons ex_non (el_cons ex_non el_nil))))
    (ss_one (sx_ret (ex_and (ex_cmp op_isA op2_is (ex_xf (K := K) (ex_var 5)) ex_non (nomark _)) (ex_one (ex_cmp op_isA op2_is (ex_xf (K := K) (ex_var 5)) ex_non (nomark _))))))))), ?_⟩
  rintro args Q E' ⟨ns, rfl, hn, q⟩
  rw_mod_cast []
  refine ⟨ns, rfl, fun h hH => ?_⟩
  rw_mod_cast []
  refine ⟨by split <;> (split <;> omega), by split <;> (split <;> omega), ?_⟩
  have hn9 : (if (if (ns.length : Int) < 9 then (ns.length : Int) else 9) > 1 then if (ns.length : Int) < 9 then (ns.length : Int) else 9 else 1) ≤ 9 := by split <;> (try split) <;> omega
  generalize (if (if (ns.length : Int) < 9 then (ns.length : Int) else 9) > 1 then if (ns.length : Int) < 9 then (ns.length : Int) else 9 else 1) = top at hn9 ⊢
  refine forL_inv (fun i fs => ∃ (h' : D) (s3 s4 : Sl), (Pot (20 * i) h' ∧ np s3 ∧ np s4) ∧ fs = [.dat (.lst (ns.map D.int)), .own false h', .un, s3, s4, .un, .un, .un]) ⟨h, .un, .un, ⟨hH, trivial, trivial⟩, rfl⟩ ?_ ?_
  · rintro R i d fs hd hR ⟨h1, s3, s4, ⟨hH1, n3, n4⟩, rfl⟩
    obtain ⟨hi, rfl⟩ := rg_get hd
    have hi9 : i ≤ 9 := by omega
    rw_mod_cast []
    refine ⟨_, h1, _, rfl, hH1, by omega, by decide, by decide, fun m h2 m0 m1 hH2 => ?_⟩
    rw_mod_cast []
    refine ⟨by omega, by omega, ?_⟩
    refine compL_inv (fun j acc fs => ∃ (xs : List Int) (h' : D), (acc = xs.map D.int ∧ xs.length = j ∧ Pot (20 * i + 1 + j) h') ∧ fs = [.dat (.lst (ns.map D.int)), .own false h', .dat (.int (0 + (i : Int))), s3, s4, .un, .un, .un]) ⟨[], h2, ⟨rfl, rfl, hH2⟩, rfl⟩ ?_ ?_
    · rintro R2 j e acc fs he hR2 ⟨xs, h', ⟨rfl, hl, hH'⟩, rfl⟩
      obtain ⟨hj, rfl⟩ := rg_get he
      rw_mod_cast []
      refine ⟨_, h', _, rfl, hH', by omega, by decide, by decide, fun r h3 r0 r1 hH3 => ?_⟩
      rw_mod_cast []
      exact ⟨by omega, hR2 _ _ ⟨xs ++ [r], h3, ⟨by rw [List.map_append]; rfl, by rw [List.length_append, hl]; rfl, hH3⟩, rfl⟩⟩
    · rintro acc fs ⟨xs, h3, ⟨rfl, hl, hH3⟩, rfl⟩
      rw [rg_len] at hl hH3
      rw_mod_cast [n3, n4]
      refine ⟨_, h3, _, rfl, hH3, by omega, by decide, by decide, fun st h4 s0 s1 hH4 => ?_⟩
      rw_mod_cast [n3, n4]
      refine ⟨_, h4, _, rfl, hH4, by omega, by decide, by decide, fun wy h5 y0 y1 hH5 => ?_⟩
      rw_mod_cast []
      refine ⟨_, _, wy, rfl, y0, y1, ?_⟩
      rw_mod_cast []
      refine ⟨_, _, rfl, ?_⟩
      rw_mod_cast []
      refine compL_inv (fun j acc fs => acc = List.replicate j (.bl true) ∧ fs = [.dat (.lst (ns.map D.int)), .own false h5, .dat (.int (0 + (i : Int))), .dat (.tup (xs.map D.int)), .dat (.int (st - 2)), .un, .un, .un]) ⟨rfl, rfl⟩ ?_ ?_
      · rintro R2 j e acc fs he hR2 ⟨rfl, rfl⟩
        obtain ⟨C, hC, rfl, hj⟩ := ex_get he
        rw_mod_cast []
        refine ⟨j, C, xs, st - 2, rfl, hC, ?_⟩
        have hj2 : j < 16 := hj
        have g1 : j < 16777216 := by omega
        rw_mod_cast [List.length_replicate, g1]
        refine hR2 _ _ ⟨?_, rfl⟩
        rw [List.replicate_succ', ]
      · rintro acc fs ⟨rfl, rfl⟩
        rw [enumD_len, show (exsL [cl_NoPlace, cl_NoText, cl_NoMaking, cl_NoRow, cl_TooGreat, cl_TooLong, cl_TooLarge, cl_NoName, cl_OtherStage, cl_Shut, cl_WrongKind, cl_NoPiece, cl_NoGap, cl_Unlike, cl_GapLeft, cl_NoRub] (.tup (xs.map D.int)) (.int (st - 2))).length = 16 from rfl]
        have hb : bools (List.replicate 16 (D.bl true)) = some (List.replicate 16 true) := by rfl
        rw_mod_cast [hb]
        exact hR _ ⟨h5, .dat _, .dat _, ⟨hH5.mono (by omega), trivial, trivial⟩, rfl⟩
  · rintro fs ⟨h1, s3, s4, ⟨hH1, n3, n4⟩, rfl⟩
    have ne : (Str.ofString "place" = Str.ofString "stage") = False := eq_false (of_decide_eq_false (by decide +kernel))
    rw_mod_cast [T.xf_NoRub, T.fp_NoRub, T.fs_NoRub, ne]
    exact q _
theorem all_mk {l : PySem.W.OpenLaw} {w : World} {K : PySem.W.Frag} {h : Heap} {mg : Str → Option Value} {fa : Addr} (X : K.In h) (G : h.Ns mainGlobals mg) (hfa : mg "law" = some (.ref fa))
    {f_law_mixed : Addr} {od_law_mixed an_law_mixed : Option Addr} {sl_law_mixed : Array (Option Value)} {oc_law_mixed kV_law_mixed dc_law_mixed pm_law_mixed cd_law_mixed ct_law_mixed : Value}
    (a_law_mixed : PySem.W.nsIn K mainGlobals "_law_mixed" = some (some (.ref f_law_mixed))) (l_law_mixed : K.lookup f_law_mixed = some ⟨oc_law_mixed, od_law_mixed, .func (PySem.W.fnOf "_law_mixed" "_law_mixed" (defArgs s_law_mixed) (defBody s_law_mixed) (defScope s_law_mixed) .none kV_law_mixed dc_law_mixed pm_law_mixed an_law_mixed cd_law_mixed ct_law_mixed), sl_law_mixed⟩) (c_law_mixed : PySem.W.codeIn K cd_law_mixed "_law_mixed" = true) (k_law_mixed : PySem.W.keepIn K (.ref f_law_mixed) = true)
    {f_law_pot : Addr} {od_law_pot an_law_pot : Option Addr} {sl_law_pot : Array (Option Value)} {oc_law_pot kV_law_pot dc_law_pot pm_law_pot cd_law_pot ct_law_pot : Value}
    (a_law_pot : PySem.W.nsIn K mainGlobals "_law_pot" = some (some (.ref f_law_pot))) (l_law_pot : K.lookup f_law_pot = some ⟨oc_law_pot, od_law_pot, .func (PySem.W.fnOf "_law_pot" "_law_pot" (defArgs s_law_pot) (defBody s_law_pot) (defScope s_law_pot) .none kV_law_pot dc_law_pot pm_law_pot an_law_pot cd_law_pot ct_law_pot), sl_law_pot⟩) (c_law_pot : PySem.W.codeIn K cd_law_pot "_law_pot" = true) (k_law_pot : PySem.W.keepIn K (.ref f_law_pot) = true)
    {f_law_draw : Addr} {od_law_draw an_law_draw : Option Addr} {sl_law_draw : Array (Option Value)} {oc_law_draw kV_law_draw dc_law_draw pm_law_draw cd_law_draw ct_law_draw : Value}
    (a_law_draw : PySem.W.nsIn K mainGlobals "_law_draw" = some (some (.ref f_law_draw))) (l_law_draw : K.lookup f_law_draw = some ⟨oc_law_draw, od_law_draw, .func (PySem.W.fnOf "_law_draw" "_law_draw" (defArgs s_law_draw) (defBody s_law_draw) (defScope s_law_draw) .none kV_law_draw dc_law_draw pm_law_draw an_law_draw cd_law_draw ct_law_draw), sl_law_draw⟩) (c_law_draw : PySem.W.codeIn K cd_law_draw "_law_draw" = true) (k_law_draw : PySem.W.keepIn K (.ref f_law_draw) = true)
    {f_law_marks : Addr} {od_law_marks an_law_marks : Option Addr} {sl_law_marks : Array (Option Value)} {oc_law_marks kV_law_marks dc_law_marks pm_law_marks cd_law_marks ct_law_marks : Value}
    (a_law_marks : PySem.W.nsIn K mainGlobals "_law_marks" = some (some (.ref f_law_marks))) (l_law_marks : K.lookup f_law_marks = some ⟨oc_law_marks, od_law_marks, .func (PySem.W.fnOf "_law_marks" "_law_marks" (defArgs s_law_marks) (defBody s_law_marks) (defScope s_law_marks) .none kV_law_marks dc_law_marks pm_law_marks an_law_marks cd_law_marks ct_law_marks), sl_law_marks⟩) (c_law_marks : PySem.W.codeIn K cd_law_marks "_law_marks" = true) (k_law_marks : PySem.W.keepIn K (.ref f_law_marks) = true)
    {f_law_errors : Addr} {od_law_errors an_law_errors : Option Addr} {sl_law_errors : Array (Option Value)} {oc_law_errors kV_law_errors dc_law_errors pm_law_errors cd_law_errors ct_law_errors : Value}
    (a_law_errors : PySem.W.nsIn K mainGlobals "_law_errors" = some (some (.ref f_law_errors))) (l_law_errors : K.lookup f_law_errors = some ⟨oc_law_errors, od_law_errors, .func (PySem.W.fnOf "_law_errors" "_law_errors" (defArgs s_law_errors) (defBody s_law_errors) (defScope s_law_errors) .none kV_law_errors dc_law_errors pm_law_errors an_law_errors cd_law_errors ct_law_errors), sl_law_errors⟩) (c_law_errors : PySem.W.codeIn K cd_law_errors "_law_errors" = true) (k_law_errors : PySem.W.keepIn K (.ref f_law_errors) = true)
    {f_law_caught : Addr} {od_law_caught an_law_caught : Option Addr} {sl_law_caught : Array (Option Value)} {oc_law_caught kV_law_caught dc_law_caught pm_law_caught cd_law_caught ct_law_caught : Value}
    (a_law_caught : PySem.W.nsIn K mainGlobals "_law_caught" = some (some (.ref f_law_caught))) (l_law_caught : K.lookup f_law_caught = some ⟨oc_law_caught, od_law_caught, .func (PySem.W.fnOf "_law_caught" "_law_caught" (defArgs s_law_caught) (defBody s_law_caught) (defScope s_law_caught) .none kV_law_caught dc_law_caught pm_law_caught an_law_caught cd_law_caught ct_law_caught), sl_law_caught⟩) (c_law_caught : PySem.W.codeIn K cd_law_caught "_law_caught" = true) (k_law_caught : PySem.W.keepIn K (.ref f_law_caught) = true)
    {f_law_good : Addr} {od_law_good an_law_good : Option Addr} {sl_law_good : Array (Option Value)} {oc_law_good kV_law_good dc_law_good pm_law_good cd_law_good ct_law_good : Value}
    (a_law_good : PySem.W.nsIn K mainGlobals "_law_good" = some (some (.ref f_law_good))) (l_law_good : K.lookup f_law_good = some ⟨oc_law_good, od_law_good, .func (PySem.W.fnOf "_law_good" "_law_good" (defArgs s_law_good) (defBody s_law_good) (defScope s_law_good) .none kV_law_good dc_law_good pm_law_good an_law_good cd_law_good ct_law_good), sl_law_good⟩) (c_law_good : PySem.W.codeIn K cd_law_good "_law_good" = true) (k_law_good : PySem.W.keepIn K (.ref f_law_good) = true)
    {f_law : Addr} {od_law an_law : Option Addr} {sl_law : Array (Option Value)} {oc_law kV_law dc_law pm_law cd_law ct_law : Value}
    (a_law : PySem.W.nsIn K mainGlobals "law" = some (some (.ref f_law))) (l_law : K.lookup f_law = some ⟨oc_law, od_law, .func (PySem.W.fnOf "law" "law" (defArgs s_law) (defBody s_law) (defScope s_law) .none kV_law dc_law pm_law an_law cd_law ct_law), sl_law⟩) (c_law : PySem.W.codeIn K cd_law "law" = true) (k_law : PySem.W.keepIn K (.ref f_law) = true)
    {cl_GapError : Addr} (aX_GapError : PySem.W.nsIn K mainGlobals "GapError" = some (some (.ref cl_GapError))) (xa_GapError : PySem.W.isClsIn K cl_GapError = true) (ty_GapError : PySem.W.typeIn K (.ref cl_GapError) = some (.type "type"))
    (sb_GapError : PySem.W.subIn K (.ref cl_GapError) (.type "BaseException") = some true) (hd_GapError : PySem.W.hasDictIn K cl_GapError = true)
    {cl_NoPlace : Addr} (aX_NoPlace : PySem.W.nsIn K mainGlobals "NoPlace" = some (some (.ref cl_NoPlace))) (xa_NoPlace : PySem.W.isClsIn K cl_NoPlace = true) (ty_NoPlace : PySem.W.typeIn K (.ref cl_NoPlace) = some (.type "type"))
    {cl_NoText : Addr} (aX_NoText : PySem.W.nsIn K mainGlobals "NoText" = some (some (.ref cl_NoText))) (xa_NoText : PySem.W.isClsIn K cl_NoText = true) (ty_NoText : PySem.W.typeIn K (.ref cl_NoText) = some (.type "type"))
    {cl_NoMaking : Addr} (aX_NoMaking : PySem.W.nsIn K mainGlobals "NoMaking" = some (some (.ref cl_NoMaking))) (xa_NoMaking : PySem.W.isClsIn K cl_NoMaking = true) (ty_NoMaking : PySem.W.typeIn K (.ref cl_NoMaking) = some (.type "type"))
    {cl_NoRow : Addr} (aX_NoRow : PySem.W.nsIn K mainGlobals "NoRow" = some (some (.ref cl_NoRow))) (xa_NoRow : PySem.W.isClsIn K cl_NoRow = true) (ty_NoRow : PySem.W.typeIn K (.ref cl_NoRow) = some (.type "type"))
    {cl_TooGreat : Addr} (aX_TooGreat : PySem.W.nsIn K mainGlobals "TooGreat" = some (some (.ref cl_TooGreat))) (xa_TooGreat : PySem.W.isClsIn K cl_TooGreat = true) (ty_TooGreat : PySem.W.typeIn K (.ref cl_TooGreat) = some (.type "type"))
    {cl_TooLong : Addr} (aX_TooLong : PySem.W.nsIn K mainGlobals "TooLong" = some (some (.ref cl_TooLong))) (xa_TooLong : PySem.W.isClsIn K cl_TooLong = true) (ty_TooLong : PySem.W.typeIn K (.ref cl_TooLong) = some (.type "type"))
    {cl_TooLarge : Addr} (aX_TooLarge : PySem.W.nsIn K mainGlobals "TooLarge" = some (some (.ref cl_TooLarge))) (xa_TooLarge : PySem.W.isClsIn K cl_TooLarge = true) (ty_TooLarge : PySem.W.typeIn K (.ref cl_TooLarge) = some (.type "type"))
    {cl_NoName : Addr} (aX_NoName : PySem.W.nsIn K mainGlobals "NoName" = some (some (.ref cl_NoName))) (xa_NoName : PySem.W.isClsIn K cl_NoName = true) (ty_NoName : PySem.W.typeIn K (.ref cl_NoName) = some (.type "type"))
    {cl_OtherStage : Addr} (aX_OtherStage : PySem.W.nsIn K mainGlobals "OtherStage" = some (some (.ref cl_OtherStage))) (xa_OtherStage : PySem.W.isClsIn K cl_OtherStage = true) (ty_OtherStage : PySem.W.typeIn K (.ref cl_OtherStage) = some (.type "type"))
    {cl_Shut : Addr} (aX_Shut : PySem.W.nsIn K mainGlobals "Shut" = some (some (.ref cl_Shut))) (xa_Shut : PySem.W.isClsIn K cl_Shut = true) (ty_Shut : PySem.W.typeIn K (.ref cl_Shut) = some (.type "type"))
    {cl_WrongKind : Addr} (aX_WrongKind : PySem.W.nsIn K mainGlobals "WrongKind" = some (some (.ref cl_WrongKind))) (xa_WrongKind : PySem.W.isClsIn K cl_WrongKind = true) (ty_WrongKind : PySem.W.typeIn K (.ref cl_WrongKind) = some (.type "type"))
    {cl_NoPiece : Addr} (aX_NoPiece : PySem.W.nsIn K mainGlobals "NoPiece" = some (some (.ref cl_NoPiece))) (xa_NoPiece : PySem.W.isClsIn K cl_NoPiece = true) (ty_NoPiece : PySem.W.typeIn K (.ref cl_NoPiece) = some (.type "type"))
    {cl_NoGap : Addr} (aX_NoGap : PySem.W.nsIn K mainGlobals "NoGap" = some (some (.ref cl_NoGap))) (xa_NoGap : PySem.W.isClsIn K cl_NoGap = true) (ty_NoGap : PySem.W.typeIn K (.ref cl_NoGap) = some (.type "type"))
    {cl_Unlike : Addr} (aX_Unlike : PySem.W.nsIn K mainGlobals "Unlike" = some (some (.ref cl_Unlike))) (xa_Unlike : PySem.W.isClsIn K cl_Unlike = true) (ty_Unlike : PySem.W.typeIn K (.ref cl_Unlike) = some (.type "type"))
    {cl_GapLeft : Addr} (aX_GapLeft : PySem.W.nsIn K mainGlobals "GapLeft" = some (some (.ref cl_GapLeft))) (xa_GapLeft : PySem.W.isClsIn K cl_GapLeft = true) (ty_GapLeft : PySem.W.typeIn K (.ref cl_GapLeft) = some (.type "type"))
    {cl_NoRub : Addr} (aX_NoRub : PySem.W.nsIn K mainGlobals "NoRub" = some (some (.ref cl_NoRub))) (xa_NoRub : PySem.W.isClsIn K cl_NoRub = true) (ty_NoRub : PySem.W.typeIn K (.ref cl_NoRub) = some (.type "type"))
    (ox_NoName : OexC K cl_NoName) (hd_NoName : PySem.W.hasDictIn K cl_NoName = true) (fp_NoName : PySem.W.findIn K (.ref cl_NoName) "place" = some none) (fs_NoName : PySem.W.findIn K (.ref cl_NoName) "stage" = some none)
    {f_NoName___init__ : Addr} {od_NoName___init__ an_NoName___init__ : Option Addr} {sl_NoName___init__ : Array (Option Value)} {oc_NoName___init__ kV_NoName___init__ dc_NoName___init__ pm_NoName___init__ cd_NoName___init__ ct_NoName___init__ : Value}
    (a_NoName___init__ : PySem.W.findIn K (.ref cl_NoName) "__init__" = some (some (.ref f_NoName___init__))) (t_NoName___init__ : PySem.W.typeIn K (.ref f_NoName___init__) = some (.type "function")) (l_NoName___init__ : K.lookup f_NoName___init__ = some ⟨oc_NoName___init__, od_NoName___init__, .func (PySem.W.fnOf "__init__" "NoName.__init__" (defArgs s_NoName___init__) (defBody s_NoName___init__) (defScope s_NoName___init__) .none kV_NoName___init__ dc_NoName___init__ pm_NoName___init__ an_NoName___init__ cd_NoName___init__ ct_NoName___init__), sl_NoName___init__⟩) (c_NoName___init__ : PySem.W.codeIn K cd_NoName___init__ "NoName.__init__" = true) (k_NoName___init__ : PySem.W.keepIn K (.ref f_NoName___init__) = true)
    (ox_OtherStage : OexC K cl_OtherStage) (hd_OtherStage : PySem.W.hasDictIn K cl_OtherStage = true) (fp_OtherStage : PySem.W.findIn K (.ref cl_OtherStage) "place" = some none) (fs_OtherStage : PySem.W.findIn K (.ref cl_OtherStage) "stage" = some none)
    {f_OtherStage___init__ : Addr} {od_OtherStage___init__ an_OtherStage___init__ : Option Addr} {sl_OtherStage___init__ : Array (Option Value)} {oc_OtherStage___init__ kV_OtherStage___init__ dc_OtherStage___init__ pm_OtherStage___init__ cd_OtherStage___init__ ct_OtherStage___init__ : Value}
    (a_OtherStage___init__ : PySem.W.findIn K (.ref cl_OtherStage) "__init__" = some (some (.ref f_OtherStage___init__))) (t_OtherStage___init__ : PySem.W.typeIn K (.ref f_OtherStage___init__) = some (.type "function")) (l_OtherStage___init__ : K.lookup f_OtherStage___init__ = some ⟨oc_OtherStage___init__, od_OtherStage___init__, .func (PySem.W.fnOf "__init__" "OtherStage.__init__" (defArgs s_OtherStage___init__) (defBody s_OtherStage___init__) (defScope s_OtherStage___init__) .none kV_OtherStage___init__ dc_OtherStage___init__ pm_OtherStage___init__ an_OtherStage___init__ cd_OtherStage___init__ ct_OtherStage___init__), sl_OtherStage___init__⟩) (c_OtherStage___init__ : PySem.W.codeIn K cd_OtherStage___init__ "OtherStage.__init__" = true) (k_OtherStage___init__ : PySem.W.keepIn K (.ref f_OtherStage___init__) = true)
    (ox_Shut : OexC K cl_Shut) (hd_Shut : PySem.W.hasDictIn K cl_Shut = true) (fp_Shut : PySem.W.findIn K (.ref cl_Shut) "place" = some none) (fs_Shut : PySem.W.findIn K (.ref cl_Shut) "stage" = some none)
    {f_Shut___init__ : Addr} {od_Shut___init__ an_Shut___init__ : Option Addr} {sl_Shut___init__ : Array (Option Value)} {oc_Shut___init__ kV_Shut___init__ dc_Shut___init__ pm_Shut___init__ cd_Shut___init__ ct_Shut___init__ : Value}
    (a_Shut___init__ : PySem.W.findIn K (.ref cl_Shut) "__init__" = some (some (.ref f_Shut___init__))) (t_Shut___init__ : PySem.W.typeIn K (.ref f_Shut___init__) = some (.type "function")) (l_Shut___init__ : K.lookup f_Shut___init__ = some ⟨oc_Shut___init__, od_Shut___init__, .func (PySem.W.fnOf "__init__" "Shut.__init__" (defArgs s_Shut___init__) (defBody s_Shut___init__) (defScope s_Shut___init__) .none kV_Shut___init__ dc_Shut___init__ pm_Shut___init__ an_Shut___init__ cd_Shut___init__ ct_Shut___init__), sl_Shut___init__⟩) (c_Shut___init__ : PySem.W.codeIn K cd_Shut___init__ "Shut.__init__" = true) (k_Shut___init__ : PySem.W.keepIn K (.ref f_Shut___init__) = true)
    (ox_WrongKind : OexC K cl_WrongKind) (hd_WrongKind : PySem.W.hasDictIn K cl_WrongKind = true) (fp_WrongKind : PySem.W.findIn K (.ref cl_WrongKind) "place" = some none) (fs_WrongKind : PySem.W.findIn K (.ref cl_WrongKind) "stage" = some none)
    {f_WrongKind___init__ : Addr} {od_WrongKind___init__ an_WrongKind___init__ : Option Addr} {sl_WrongKind___init__ : Array (Option Value)} {oc_WrongKind___init__ kV_WrongKind___init__ dc_WrongKind___init__ pm_WrongKind___init__ cd_WrongKind___init__ ct_WrongKind___init__ : Value}
    (a_WrongKind___init__ : PySem.W.findIn K (.ref cl_WrongKind) "__init__" = some (some (.ref f_WrongKind___init__))) (t_WrongKind___init__ : PySem.W.typeIn K (.ref f_WrongKind___init__) = some (.type "function")) (l_WrongKind___init__ : K.lookup f_WrongKind___init__ = some ⟨oc_WrongKind___init__, od_WrongKind___init__, .func (PySem.W.fnOf "__init__" "WrongKind.__init__" (defArgs s_WrongKind___init__) (defBody s_WrongKind___init__) (defScope s_WrongKind___init__) .none kV_WrongKind___init__ dc_WrongKind___init__ pm_WrongKind___init__ an_WrongKind___init__ cd_WrongKind___init__ ct_WrongKind___init__), sl_WrongKind___init__⟩) (c_WrongKind___init__ : PySem.W.codeIn K cd_WrongKind___init__ "WrongKind.__init__" = true) (k_WrongKind___init__ : PySem.W.keepIn K (.ref f_WrongKind___init__) = true)
    (ox_NoPiece : OexC K cl_NoPiece) (hd_NoPiece : PySem.W.hasDictIn K cl_NoPiece = true) (fp_NoPiece : PySem.W.findIn K (.ref cl_NoPiece) "place" = some none) (fs_NoPiece : PySem.W.findIn K (.ref cl_NoPiece) "stage" = some none)
    {f_NoPiece___init__ : Addr} {od_NoPiece___init__ an_NoPiece___init__ : Option Addr} {sl_NoPiece___init__ : Array (Option Value)} {oc_NoPiece___init__ kV_NoPiece___init__ dc_NoPiece___init__ pm_NoPiece___init__ cd_NoPiece___init__ ct_NoPiece___init__ : Value}
    (a_NoPiece___init__ : PySem.W.findIn K (.ref cl_NoPiece) "__init__" = some (some (.ref f_NoPiece___init__))) (t_NoPiece___init__ : PySem.W.typeIn K (.ref f_NoPiece___init__) = some (.type "function")) (l_NoPiece___init__ : K.lookup f_NoPiece___init__ = some ⟨oc_NoPiece___init__, od_NoPiece___init__, .func (PySem.W.fnOf "__init__" "NoPiece.__init__" (defArgs s_NoPiece___init__) (defBody s_NoPiece___init__) (defScope s_NoPiece___init__) .none kV_NoPiece___init__ dc_NoPiece___init__ pm_NoPiece___init__ an_NoPiece___init__ cd_NoPiece___init__ ct_NoPiece___init__), sl_NoPiece___init__⟩) (c_NoPiece___init__ : PySem.W.codeIn K cd_NoPiece___init__ "NoPiece.__init__" = true) (k_NoPiece___init__ : PySem.W.keepIn K (.ref f_NoPiece___init__) = true)
    (ox_NoGap : OexC K cl_NoGap) (hd_NoGap : PySem.W.hasDictIn K cl_NoGap = true) (fp_NoGap : PySem.W.findIn K (.ref cl_NoGap) "place" = some none) (fs_NoGap : PySem.W.findIn K (.ref cl_NoGap) "stage" = some none)
    {f_NoGap___init__ : Addr} {od_NoGap___init__ an_NoGap___init__ : Option Addr} {sl_NoGap___init__ : Array (Option Value)} {oc_NoGap___init__ kV_NoGap___init__ dc_NoGap___init__ pm_NoGap___init__ cd_NoGap___init__ ct_NoGap___init__ : Value}
    (a_NoGap___init__ : PySem.W.findIn K (.ref cl_NoGap) "__init__" = some (some (.ref f_NoGap___init__))) (t_NoGap___init__ : PySem.W.typeIn K (.ref f_NoGap___init__) = some (.type "function")) (l_NoGap___init__ : K.lookup f_NoGap___init__ = some ⟨oc_NoGap___init__, od_NoGap___init__, .func (PySem.W.fnOf "__init__" "NoGap.__init__" (defArgs s_NoGap___init__) (defBody s_NoGap___init__) (defScope s_NoGap___init__) .none kV_NoGap___init__ dc_NoGap___init__ pm_NoGap___init__ an_NoGap___init__ cd_NoGap___init__ ct_NoGap___init__), sl_NoGap___init__⟩) (c_NoGap___init__ : PySem.W.codeIn K cd_NoGap___init__ "NoGap.__init__" = true) (k_NoGap___init__ : PySem.W.keepIn K (.ref f_NoGap___init__) = true)
    (ox_Unlike : OexC K cl_Unlike) (hd_Unlike : PySem.W.hasDictIn K cl_Unlike = true) (fp_Unlike : PySem.W.findIn K (.ref cl_Unlike) "place" = some none) (fs_Unlike : PySem.W.findIn K (.ref cl_Unlike) "stage" = some none)
    {f_Unlike___init__ : Addr} {od_Unlike___init__ an_Unlike___init__ : Option Addr} {sl_Unlike___init__ : Array (Option Value)} {oc_Unlike___init__ kV_Unlike___init__ dc_Unlike___init__ pm_Unlike___init__ cd_Unlike___init__ ct_Unlike___init__ : Value}
    (a_Unlike___init__ : PySem.W.findIn K (.ref cl_Unlike) "__init__" = some (some (.ref f_Unlike___init__))) (t_Unlike___init__ : PySem.W.typeIn K (.ref f_Unlike___init__) = some (.type "function")) (l_Unlike___init__ : K.lookup f_Unlike___init__ = some ⟨oc_Unlike___init__, od_Unlike___init__, .func (PySem.W.fnOf "__init__" "Unlike.__init__" (defArgs s_Unlike___init__) (defBody s_Unlike___init__) (defScope s_Unlike___init__) .none kV_Unlike___init__ dc_Unlike___init__ pm_Unlike___init__ an_Unlike___init__ cd_Unlike___init__ ct_Unlike___init__), sl_Unlike___init__⟩) (c_Unlike___init__ : PySem.W.codeIn K cd_Unlike___init__ "Unlike.__init__" = true) (k_Unlike___init__ : PySem.W.keepIn K (.ref f_Unlike___init__) = true)
    (ox_GapLeft : OexC K cl_GapLeft) (hd_GapLeft : PySem.W.hasDictIn K cl_GapLeft = true) (fp_GapLeft : PySem.W.findIn K (.ref cl_GapLeft) "place" = some none) (fs_GapLeft : PySem.W.findIn K (.ref cl_GapLeft) "stage" = some none)
    {f_GapLeft___init__ : Addr} {od_GapLeft___init__ an_GapLeft___init__ : Option Addr} {sl_GapLeft___init__ : Array (Option Value)} {oc_GapLeft___init__ kV_GapLeft___init__ dc_GapLeft___init__ pm_GapLeft___init__ cd_GapLeft___init__ ct_GapLeft___init__ : Value}
    (a_GapLeft___init__ : PySem.W.findIn K (.ref cl_GapLeft) "__init__" = some (some (.ref f_GapLeft___init__))) (t_GapLeft___init__ : PySem.W.typeIn K (.ref f_GapLeft___init__) = some (.type "function")) (l_GapLeft___init__ : K.lookup f_GapLeft___init__ = some ⟨oc_GapLeft___init__, od_GapLeft___init__, .func (PySem.W.fnOf "__init__" "GapLeft.__init__" (defArgs s_GapLeft___init__) (defBody s_GapLeft___init__) (defScope s_GapLeft___init__) .none kV_GapLeft___init__ dc_GapLeft___init__ pm_GapLeft___init__ an_GapLeft___init__ cd_GapLeft___init__ ct_GapLeft___init__), sl_GapLeft___init__⟩) (c_GapLeft___init__ : PySem.W.codeIn K cd_GapLeft___init__ "GapLeft.__init__" = true) (k_GapLeft___init__ : PySem.W.keepIn K (.ref f_GapLeft___init__) = true)
    (ox_NoRub : OexC K cl_NoRub) (hd_NoRub : PySem.W.hasDictIn K cl_NoRub = true) (fp_NoRub : PySem.W.findIn K (.ref cl_NoRub) "place" = some none) (fs_NoRub : PySem.W.findIn K (.ref cl_NoRub) "stage" = some none)
    {f_NoRub___init__ : Addr} {od_NoRub___init__ an_NoRub___init__ : Option Addr} {sl_NoRub___init__ : Array (Option Value)} {oc_NoRub___init__ kV_NoRub___init__ dc_NoRub___init__ pm_NoRub___init__ cd_NoRub___init__ ct_NoRub___init__ : Value}
    (a_NoRub___init__ : PySem.W.findIn K (.ref cl_NoRub) "__init__" = some (some (.ref f_NoRub___init__))) (t_NoRub___init__ : PySem.W.typeIn K (.ref f_NoRub___init__) = some (.type "function")) (l_NoRub___init__ : K.lookup f_NoRub___init__ = some ⟨oc_NoRub___init__, od_NoRub___init__, .func (PySem.W.fnOf "__init__" "NoRub.__init__" (defArgs s_NoRub___init__) (defBody s_NoRub___init__) (defScope s_NoRub___init__) .none kV_NoRub___init__ dc_NoRub___init__ pm_NoRub___init__ an_NoRub___init__ cd_NoRub___init__ ct_NoRub___init__), sl_NoRub___init__⟩) (c_NoRub___init__ : PySem.W.codeIn K cd_NoRub___init__ "NoRub.__init__" = true) (k_NoRub___init__ : PySem.W.keepIn K (.ref f_NoRub___init__) = true)
    (ox_TooGreat : OexC K cl_TooGreat) (hd_TooGreat : PySem.W.hasDictIn K cl_TooGreat = true) (fp_TooGreat : PySem.W.findIn K (.ref cl_TooGreat) "place" = some none)
    {f_TooGreat___init__ : Addr} {od_TooGreat___init__ an_TooGreat___init__ : Option Addr} {sl_TooGreat___init__ : Array (Option Value)} {oc_TooGreat___init__ kV_TooGreat___init__ dc_TooGreat___init__ pm_TooGreat___init__ cd_TooGreat___init__ ct_TooGreat___init__ : Value}
    (a_TooGreat___init__ : PySem.W.findIn K (.ref cl_TooGreat) "__init__" = some (some (.ref f_TooGreat___init__))) (t_TooGreat___init__ : PySem.W.typeIn K (.ref f_TooGreat___init__) = some (.type "function")) (l_TooGreat___init__ : K.lookup f_TooGreat___init__ = some ⟨oc_TooGreat___init__, od_TooGreat___init__, .func (PySem.W.fnOf "__init__" "TooGreat.__init__" (defArgs s_TooGreat___init__) (defBody s_TooGreat___init__) (defScope s_TooGreat___init__) .none kV_TooGreat___init__ dc_TooGreat___init__ pm_TooGreat___init__ an_TooGreat___init__ cd_TooGreat___init__ ct_TooGreat___init__), sl_TooGreat___init__⟩) (c_TooGreat___init__ : PySem.W.codeIn K cd_TooGreat___init__ "TooGreat.__init__" = true) (k_TooGreat___init__ : PySem.W.keepIn K (.ref f_TooGreat___init__) = true)
    (ox_TooLong : OexC K cl_TooLong) (hd_TooLong : PySem.W.hasDictIn K cl_TooLong = true) (fp_TooLong : PySem.W.findIn K (.ref cl_TooLong) "place" = some none)
    {f_TooLong___init__ : Addr} {od_TooLong___init__ an_TooLong___init__ : Option Addr} {sl_TooLong___init__ : Array (Option Value)} {oc_TooLong___init__ kV_TooLong___init__ dc_TooLong___init__ pm_TooLong___init__ cd_TooLong___init__ ct_TooLong___init__ : Value}
    (a_TooLong___init__ : PySem.W.findIn K (.ref cl_TooLong) "__init__" = some (some (.ref f_TooLong___init__))) (t_TooLong___init__ : PySem.W.typeIn K (.ref f_TooLong___init__) = some (.type "function")) (l_TooLong___init__ : K.lookup f_TooLong___init__ = some ⟨oc_TooLong___init__, od_TooLong___init__, .func (PySem.W.fnOf "__init__" "TooLong.__init__" (defArgs s_TooLong___init__) (defBody s_TooLong___init__) (defScope s_TooLong___init__) .none kV_TooLong___init__ dc_TooLong___init__ pm_TooLong___init__ an_TooLong___init__ cd_TooLong___init__ ct_TooLong___init__), sl_TooLong___init__⟩) (c_TooLong___init__ : PySem.W.codeIn K cd_TooLong___init__ "TooLong.__init__" = true) (k_TooLong___init__ : PySem.W.keepIn K (.ref f_TooLong___init__) = true)
    (ox_TooLarge : OexC K cl_TooLarge) (hd_TooLarge : PySem.W.hasDictIn K cl_TooLarge = true) (fp_TooLarge : PySem.W.findIn K (.ref cl_TooLarge) "place" = some none)
    {f_TooLarge___init__ : Addr} {od_TooLarge___init__ an_TooLarge___init__ : Option Addr} {sl_TooLarge___init__ : Array (Option Value)} {oc_TooLarge___init__ kV_TooLarge___init__ dc_TooLarge___init__ pm_TooLarge___init__ cd_TooLarge___init__ ct_TooLarge___init__ : Value}
    (a_TooLarge___init__ : PySem.W.findIn K (.ref cl_TooLarge) "__init__" = some (some (.ref f_TooLarge___init__))) (t_TooLarge___init__ : PySem.W.typeIn K (.ref f_TooLarge___init__) = some (.type "function")) (l_TooLarge___init__ : K.lookup f_TooLarge___init__ = some ⟨oc_TooLarge___init__, od_TooLarge___init__, .func (PySem.W.fnOf "__init__" "TooLarge.__init__" (defArgs s_TooLarge___init__) (defBody s_TooLarge___init__) (defScope s_TooLarge___init__) .none kV_TooLarge___init__ dc_TooLarge___init__ pm_TooLarge___init__ an_TooLarge___init__ cd_TooLarge___init__ ct_TooLarge___init__), sl_TooLarge___init__⟩) (c_TooLarge___init__ : PySem.W.codeIn K cd_TooLarge___init__ "TooLarge.__init__" = true) (k_TooLarge___init__ : PySem.W.keepIn K (.ref f_TooLarge___init__) = true)
    (r1_GapError : PySem.W.readsIn K cl_GapError (.type "type") = true) (r2_GapError : PySem.W.specialIn K (.ref cl_GapError) "__getattribute__" = some (some (.builtin "type.__getattribute__"))) (vi_GapError : PySem.W.findCls K (.ref cl_GapError) (.type "type") "__init__" = some (.val (.builtin "ValueError.__init__")))
    (ex_NoPlace : PySem.W.excIn K cl_NoPlace veMro "ValueError.__new__" = true)
    (kc_NoPlace : PySem.W.keepIn K (.ref cl_NoPlace) = true) (sb_NoPlace : PySem.W.subIn K (.ref cl_NoPlace) (.type "BaseException") = some true)
    (xb_NoPlace : PySem.W.findIn K (.ref cl_NoPlace) "__getattribute__" = some (some (.builtin "BaseException.__getattribute__"))) (xc_NoPlace : PySem.W.findIn K (.ref cl_NoPlace) "__getattr__" = some none) (xd_NoPlace : PySem.W.findIn K (.ref cl_NoPlace) "__class__" = some (some (.builtin "object.__class__")))
    (xe_NoPlace : PySem.W.specialIn K (.builtin "object.__class__") "__get__" = some (some (.builtin "getset_descriptor.__get__"))) (xf_NoPlace : PySem.W.takesIn K (.builtin "object.__class__") = some true) (xg_NoPlace : PySem.W.mroIn K cl_NoPlace (.type "object") = some true)
    (sv_NoPlace : PySem.W.subIn K (.ref cl_NoPlace) (.type "ValueError") = some true)
    (su_NoPlace_GapError : PySem.W.subIn K (.ref cl_NoPlace) (.ref cl_GapError) = some true)
    (su_NoPlace_NoPlace : PySem.W.subIn K (.ref cl_NoPlace) (.ref cl_NoPlace) = some true)
    (su_NoPlace_NoText : PySem.W.subIn K (.ref cl_NoPlace) (.ref cl_NoText) = some false)
    (su_NoPlace_NoMaking : PySem.W.subIn K (.ref cl_NoPlace) (.ref cl_NoMaking) = some false)
    (su_NoPlace_NoRow : PySem.W.subIn K (.ref cl_NoPlace) (.ref cl_NoRow) = some false)
    (su_NoPlace_TooGreat : PySem.W.subIn K (.ref cl_NoPlace) (.ref cl_TooGreat) = some false)
    (su_NoPlace_TooLong : PySem.W.subIn K (.ref cl_NoPlace) (.ref cl_TooLong) = some false)
    (su_NoPlace_TooLarge : PySem.W.subIn K (.ref cl_NoPlace) (.ref cl_TooLarge) = some false)
    (su_NoPlace_NoName : PySem.W.subIn K (.ref cl_NoPlace) (.ref cl_NoName) = some false)
    (su_NoPlace_OtherStage : PySem.W.subIn K (.ref cl_NoPlace) (.ref cl_OtherStage) = some false)
    (su_NoPlace_Shut : PySem.W.subIn K (.ref cl_NoPlace) (.ref cl_Shut) = some false)
    (su_NoPlace_WrongKind : PySem.W.subIn K (.ref cl_NoPlace) (.ref cl_WrongKind) = some false)
    (su_NoPlace_NoPiece : PySem.W.subIn K (.ref cl_NoPlace) (.ref cl_NoPiece) = some false)
    (su_NoPlace_NoGap : PySem.W.subIn K (.ref cl_NoPlace) (.ref cl_NoGap) = some false)
    (su_NoPlace_Unlike : PySem.W.subIn K (.ref cl_NoPlace) (.ref cl_Unlike) = some false)
    (su_NoPlace_GapLeft : PySem.W.subIn K (.ref cl_NoPlace) (.ref cl_GapLeft) = some false)
    (su_NoPlace_NoRub : PySem.W.subIn K (.ref cl_NoPlace) (.ref cl_NoRub) = some false)
    (ex_NoText : PySem.W.excIn K cl_NoText veMro "ValueError.__new__" = true)
    (kc_NoText : PySem.W.keepIn K (.ref cl_NoText) = true) (sb_NoText : PySem.W.subIn K (.ref cl_NoText) (.type "BaseException") = some true)
    (xb_NoText : PySem.W.findIn K (.ref cl_NoText) "__getattribute__" = some (some (.builtin "BaseException.__getattribute__"))) (xc_NoText : PySem.W.findIn K (.ref cl_NoText) "__getattr__" = some none) (xd_NoText : PySem.W.findIn K (.ref cl_NoText) "__class__" = some (some (.builtin "object.__class__")))
    (xe_NoText : PySem.W.specialIn K (.builtin "object.__class__") "__get__" = some (some (.builtin "getset_descriptor.__get__"))) (xf_NoText : PySem.W.takesIn K (.builtin "object.__class__") = some true) (xg_NoText : PySem.W.mroIn K cl_NoText (.type "object") = some true)
    (sv_NoText : PySem.W.subIn K (.ref cl_NoText) (.type "ValueError") = some true)
    (su_NoText_GapError : PySem.W.subIn K (.ref cl_NoText) (.ref cl_GapError) = some true)
    (su_NoText_NoPlace : PySem.W.subIn K (.ref cl_NoText) (.ref cl_NoPlace) = some false)
    (su_NoText_NoText : PySem.W.subIn K (.ref cl_NoText) (.ref cl_NoText) = some true)
    (su_NoText_NoMaking : PySem.W.subIn K (.ref cl_NoText) (.ref cl_NoMaking) = some false)
    (su_NoText_NoRow : PySem.W.subIn K (.ref cl_NoText) (.ref cl_NoRow) = some false)
    (su_NoText_TooGreat : PySem.W.subIn K (.ref cl_NoText) (.ref cl_TooGreat) = some false)
    (su_NoText_TooLong : PySem.W.subIn K (.ref cl_NoText) (.ref cl_TooLong) = some false)
    (su_NoText_TooLarge : PySem.W.subIn K (.ref cl_NoText) (.ref cl_TooLarge) = some false)
    (su_NoText_NoName : PySem.W.subIn K (.ref cl_NoText) (.ref cl_NoName) = some false)
    (su_NoText_OtherStage : PySem.W.subIn K (.ref cl_NoText) (.ref cl_OtherStage) = some false)
    (su_NoText_Shut : PySem.W.subIn K (.ref cl_NoText) (.ref cl_Shut) = some false)
    (su_NoText_WrongKind : PySem.W.subIn K (.ref cl_NoText) (.ref cl_WrongKind) = some false)
    (su_NoText_NoPiece : PySem.W.subIn K (.ref cl_NoText) (.ref cl_NoPiece) = some false)
    (su_NoText_NoGap : PySem.W.subIn K (.ref cl_NoText) (.ref cl_NoGap) = some false)
    (su_NoText_Unlike : PySem.W.subIn K (.ref cl_NoText) (.ref cl_Unlike) = some false)
    (su_NoText_GapLeft : PySem.W.subIn K (.ref cl_NoText) (.ref cl_GapLeft) = some false)
    (su_NoText_NoRub : PySem.W.subIn K (.ref cl_NoText) (.ref cl_NoRub) = some false)
    (ex_NoMaking : PySem.W.excIn K cl_NoMaking veMro "ValueError.__new__" = true)
    (kc_NoMaking : PySem.W.keepIn K (.ref cl_NoMaking) = true) (sb_NoMaking : PySem.W.subIn K (.ref cl_NoMaking) (.type "BaseException") = some true)
    (xb_NoMaking : PySem.W.findIn K (.ref cl_NoMaking) "__getattribute__" = some (some (.builtin "BaseException.__getattribute__"))) (xc_NoMaking : PySem.W.findIn K (.ref cl_NoMaking) "__getattr__" = some none) (xd_NoMaking : PySem.W.findIn K (.ref cl_NoMaking) "__class__" = some (some (.builtin "object.__class__")))
    (xe_NoMaking : PySem.W.specialIn K (.builtin "object.__class__") "__get__" = some (some (.builtin "getset_descriptor.__get__"))) (xf_NoMaking : PySem.W.takesIn K (.builtin "object.__class__") = some true) (xg_NoMaking : PySem.W.mroIn K cl_NoMaking (.type "object") = some true)
    (sv_NoMaking : PySem.W.subIn K (.ref cl_NoMaking) (.type "ValueError") = some true)
    (su_NoMaking_GapError : PySem.W.subIn K (.ref cl_NoMaking) (.ref cl_GapError) = some true)
    (su_NoMaking_NoPlace : PySem.W.subIn K (.ref cl_NoMaking) (.ref cl_NoPlace) = some false)
    (su_NoMaking_NoText : PySem.W.subIn K (.ref cl_NoMaking) (.ref cl_NoText) = some false)
    (su_NoMaking_NoMaking : PySem.W.subIn K (.ref cl_NoMaking) (.ref cl_NoMaking) = some true)
    (su_NoMaking_NoRow : PySem.W.subIn K (.ref cl_NoMaking) (.ref cl_NoRow) = some false)
    (su_NoMaking_TooGreat : PySem.W.subIn K (.ref cl_NoMaking) (.ref cl_TooGreat) = some false)
    (su_NoMaking_TooLong : PySem.W.subIn K (.ref cl_NoMaking) (.ref cl_TooLong) = some false)
    (su_NoMaking_TooLarge : PySem.W.subIn K (.ref cl_NoMaking) (.ref cl_TooLarge) = some false)
    (su_NoMaking_NoName : PySem.W.subIn K (.ref cl_NoMaking) (.ref cl_NoName) = some false)
    (su_NoMaking_OtherStage : PySem.W.subIn K (.ref cl_NoMaking) (.ref cl_OtherStage) = some false)
    (su_NoMaking_Shut : PySem.W.subIn K (.ref cl_NoMaking) (.ref cl_Shut) = some false)
    (su_NoMaking_WrongKind : PySem.W.subIn K (.ref cl_NoMaking) (.ref cl_WrongKind) = some false)
    (su_NoMaking_NoPiece : PySem.W.subIn K (.ref cl_NoMaking) (.ref cl_NoPiece) = some false)
    (su_NoMaking_NoGap : PySem.W.subIn K (.ref cl_NoMaking) (.ref cl_NoGap) = some false)
    (su_NoMaking_Unlike : PySem.W.subIn K (.ref cl_NoMaking) (.ref cl_Unlike) = some false)
    (su_NoMaking_GapLeft : PySem.W.subIn K (.ref cl_NoMaking) (.ref cl_GapLeft) = some false)
    (su_NoMaking_NoRub : PySem.W.subIn K (.ref cl_NoMaking) (.ref cl_NoRub) = some false)
    (ex_NoRow : PySem.W.excIn K cl_NoRow veMro "ValueError.__new__" = true)
    (kc_NoRow : PySem.W.keepIn K (.ref cl_NoRow) = true) (sb_NoRow : PySem.W.subIn K (.ref cl_NoRow) (.type "BaseException") = some true)
    (xb_NoRow : PySem.W.findIn K (.ref cl_NoRow) "__getattribute__" = some (some (.builtin "BaseException.__getattribute__"))) (xc_NoRow : PySem.W.findIn K (.ref cl_NoRow) "__getattr__" = some none) (xd_NoRow : PySem.W.findIn K (.ref cl_NoRow) "__class__" = some (some (.builtin "object.__class__")))
    (xe_NoRow : PySem.W.specialIn K (.builtin "object.__class__") "__get__" = some (some (.builtin "getset_descriptor.__get__"))) (xf_NoRow : PySem.W.takesIn K (.builtin "object.__class__") = some true) (xg_NoRow : PySem.W.mroIn K cl_NoRow (.type "object") = some true)
    (sv_NoRow : PySem.W.subIn K (.ref cl_NoRow) (.type "ValueError") = some true)
    (su_NoRow_GapError : PySem.W.subIn K (.ref cl_NoRow) (.ref cl_GapError) = some true)
    (su_NoRow_NoPlace : PySem.W.subIn K (.ref cl_NoRow) (.ref cl_NoPlace) = some false)
    (su_NoRow_NoText : PySem.W.subIn K (.ref cl_NoRow) (.ref cl_NoText) = some false)
    (su_NoRow_NoMaking : PySem.W.subIn K (.ref cl_NoRow) (.ref cl_NoMaking) = some false)
    (su_NoRow_NoRow : PySem.W.subIn K (.ref cl_NoRow) (.ref cl_NoRow) = some true)
    (su_NoRow_TooGreat : PySem.W.subIn K (.ref cl_NoRow) (.ref cl_TooGreat) = some false)
    (su_NoRow_TooLong : PySem.W.subIn K (.ref cl_NoRow) (.ref cl_TooLong) = some false)
    (su_NoRow_TooLarge : PySem.W.subIn K (.ref cl_NoRow) (.ref cl_TooLarge) = some false)
    (su_NoRow_NoName : PySem.W.subIn K (.ref cl_NoRow) (.ref cl_NoName) = some false)
    (su_NoRow_OtherStage : PySem.W.subIn K (.ref cl_NoRow) (.ref cl_OtherStage) = some false)
    (su_NoRow_Shut : PySem.W.subIn K (.ref cl_NoRow) (.ref cl_Shut) = some false)
    (su_NoRow_WrongKind : PySem.W.subIn K (.ref cl_NoRow) (.ref cl_WrongKind) = some false)
    (su_NoRow_NoPiece : PySem.W.subIn K (.ref cl_NoRow) (.ref cl_NoPiece) = some false)
    (su_NoRow_NoGap : PySem.W.subIn K (.ref cl_NoRow) (.ref cl_NoGap) = some false)
    (su_NoRow_Unlike : PySem.W.subIn K (.ref cl_NoRow) (.ref cl_Unlike) = some false)
    (su_NoRow_GapLeft : PySem.W.subIn K (.ref cl_NoRow) (.ref cl_GapLeft) = some false)
    (su_NoRow_NoRub : PySem.W.subIn K (.ref cl_NoRow) (.ref cl_NoRub) = some false)
    (kc_TooGreat : PySem.W.keepIn K (.ref cl_TooGreat) = true) (sb_TooGreat : PySem.W.subIn K (.ref cl_TooGreat) (.type "BaseException") = some true)
    (xb_TooGreat : PySem.W.findIn K (.ref cl_TooGreat) "__getattribute__" = some (some (.builtin "BaseException.__getattribute__"))) (xc_TooGreat : PySem.W.findIn K (.ref cl_TooGreat) "__getattr__" = some none) (xd_TooGreat : PySem.W.findIn K (.ref cl_TooGreat) "__class__" = some (some (.builtin "object.__class__")))
    (xe_TooGreat : PySem.W.specialIn K (.builtin "object.__class__") "__get__" = some (some (.builtin "getset_descriptor.__get__"))) (xf_TooGreat : PySem.W.takesIn K (.builtin "object.__class__") = some true) (xg_TooGreat : PySem.W.mroIn K cl_TooGreat (.type "object") = some true)
    (sv_TooGreat : PySem.W.subIn K (.ref cl_TooGreat) (.type "ValueError") = some true)
    (su_TooGreat_GapError : PySem.W.subIn K (.ref cl_TooGreat) (.ref cl_GapError) = some true)
    (su_TooGreat_NoPlace : PySem.W.subIn K (.ref cl_TooGreat) (.ref cl_NoPlace) = some false)
    (su_TooGreat_NoText : PySem.W.subIn K (.ref cl_TooGreat) (.ref cl_NoText) = some false)
    (su_TooGreat_NoMaking : PySem.W.subIn K (.ref cl_TooGreat) (.ref cl_NoMaking) = some false)
    (su_TooGreat_NoRow : PySem.W.subIn K (.ref cl_TooGreat) (.ref cl_NoRow) = some false)
    (su_TooGreat_TooGreat : PySem.W.subIn K (.ref cl_TooGreat) (.ref cl_TooGreat) = some true)
    (su_TooGreat_TooLong : PySem.W.subIn K (.ref cl_TooGreat) (.ref cl_TooLong) = some false)
    (su_TooGreat_TooLarge : PySem.W.subIn K (.ref cl_TooGreat) (.ref cl_TooLarge) = some false)
    (su_TooGreat_NoName : PySem.W.subIn K (.ref cl_TooGreat) (.ref cl_NoName) = some false)
    (su_TooGreat_OtherStage : PySem.W.subIn K (.ref cl_TooGreat) (.ref cl_OtherStage) = some false)
    (su_TooGreat_Shut : PySem.W.subIn K (.ref cl_TooGreat) (.ref cl_Shut) = some false)
    (su_TooGreat_WrongKind : PySem.W.subIn K (.ref cl_TooGreat) (.ref cl_WrongKind) = some false)
    (su_TooGreat_NoPiece : PySem.W.subIn K (.ref cl_TooGreat) (.ref cl_NoPiece) = some false)
    (su_TooGreat_NoGap : PySem.W.subIn K (.ref cl_TooGreat) (.ref cl_NoGap) = some false)
    (su_TooGreat_Unlike : PySem.W.subIn K (.ref cl_TooGreat) (.ref cl_Unlike) = some false)
    (su_TooGreat_GapLeft : PySem.W.subIn K (.ref cl_TooGreat) (.ref cl_GapLeft) = some false)
    (su_TooGreat_NoRub : PySem.W.subIn K (.ref cl_TooGreat) (.ref cl_NoRub) = some false)
    (kc_TooLong : PySem.W.keepIn K (.ref cl_TooLong) = true) (sb_TooLong : PySem.W.subIn K (.ref cl_TooLong) (.type "BaseException") = some true)
    (xb_TooLong : PySem.W.findIn K (.ref cl_TooLong) "__getattribute__" = some (some (.builtin "BaseException.__getattribute__"))) (xc_TooLong : PySem.W.findIn K (.ref cl_TooLong) "__getattr__" = some none) (xd_TooLong : PySem.W.findIn K (.ref cl_TooLong) "__class__" = some (some (.builtin "object.__class__")))
    (xe_TooLong : PySem.W.specialIn K (.builtin "object.__class__") "__get__" = some (some (.builtin "getset_descriptor.__get__"))) (xf_TooLong : PySem.W.takesIn K (.builtin "object.__class__") = some true) (xg_TooLong : PySem.W.mroIn K cl_TooLong (.type "object") = some true)
    (sv_TooLong : PySem.W.subIn K (.ref cl_TooLong) (.type "ValueError") = some true)
    (su_TooLong_GapError : PySem.W.subIn K (.ref cl_TooLong) (.ref cl_GapError) = some true)
    (su_TooLong_NoPlace : PySem.W.subIn K (.ref cl_TooLong) (.ref cl_NoPlace) = some false)
    (su_TooLong_NoText : PySem.W.subIn K (.ref cl_TooLong) (.ref cl_NoText) = some false)
    (su_TooLong_NoMaking : PySem.W.subIn K (.ref cl_TooLong) (.ref cl_NoMaking) = some false)
    (su_TooLong_NoRow : PySem.W.subIn K (.ref cl_TooLong) (.ref cl_NoRow) = some false)
    (su_TooLong_TooGreat : PySem.W.subIn K (.ref cl_TooLong) (.ref cl_TooGreat) = some false)
    (su_TooLong_TooLong : PySem.W.subIn K (.ref cl_TooLong) (.ref cl_TooLong) = some true)
    (su_TooLong_TooLarge : PySem.W.subIn K (.ref cl_TooLong) (.ref cl_TooLarge) = some false)
    (su_TooLong_NoName : PySem.W.subIn K (.ref cl_TooLong) (.ref cl_NoName) = some false)
    (su_TooLong_OtherStage : PySem.W.subIn K (.ref cl_TooLong) (.ref cl_OtherStage) = some false)
    (su_TooLong_Shut : PySem.W.subIn K (.ref cl_TooLong) (.ref cl_Shut) = some false)
    (su_TooLong_WrongKind : PySem.W.subIn K (.ref cl_TooLong) (.ref cl_WrongKind) = some false)
    (su_TooLong_NoPiece : PySem.W.subIn K (.ref cl_TooLong) (.ref cl_NoPiece) = some false)
    (su_TooLong_NoGap : PySem.W.subIn K (.ref cl_TooLong) (.ref cl_NoGap) = some false)
    (su_TooLong_Unlike : PySem.W.subIn K (.ref cl_TooLong) (.ref cl_Unlike) = some false)
    (su_TooLong_GapLeft : PySem.W.subIn K (.ref cl_TooLong) (.ref cl_GapLeft) = some false)
    (su_TooLong_NoRub : PySem.W.subIn K (.ref cl_TooLong) (.ref cl_NoRub) = some false)
    (kc_TooLarge : PySem.W.keepIn K (.ref cl_TooLarge) = true) (sb_TooLarge : PySem.W.subIn K (.ref cl_TooLarge) (.type "BaseException") = some true)
    (xb_TooLarge : PySem.W.findIn K (.ref cl_TooLarge) "__getattribute__" = some (some (.builtin "BaseException.__getattribute__"))) (xc_TooLarge : PySem.W.findIn K (.ref cl_TooLarge) "__getattr__" = some none) (xd_TooLarge : PySem.W.findIn K (.ref cl_TooLarge) "__class__" = some (some (.builtin "object.__class__")))
    (xe_TooLarge : PySem.W.specialIn K (.builtin "object.__class__") "__get__" = some (some (.builtin "getset_descriptor.__get__"))) (xf_TooLarge : PySem.W.takesIn K (.builtin "object.__class__") = some true) (xg_TooLarge : PySem.W.mroIn K cl_TooLarge (.type "object") = some true)
    (sv_TooLarge : PySem.W.subIn K (.ref cl_TooLarge) (.type "ValueError") = some true)
    (su_TooLarge_GapError : PySem.W.subIn K (.ref cl_TooLarge) (.ref cl_GapError) = some true)
    (su_TooLarge_NoPlace : PySem.W.subIn K (.ref cl_TooLarge) (.ref cl_NoPlace) = some false)
    (su_TooLarge_NoText : PySem.W.subIn K (.ref cl_TooLarge) (.ref cl_NoText) = some false)
    (su_TooLarge_NoMaking : PySem.W.subIn K (.ref cl_TooLarge) (.ref cl_NoMaking) = some false)
    (su_TooLarge_NoRow : PySem.W.subIn K (.ref cl_TooLarge) (.ref cl_NoRow) = some false)
    (su_TooLarge_TooGreat : PySem.W.subIn K (.ref cl_TooLarge) (.ref cl_TooGreat) = some false)
    (su_TooLarge_TooLong : PySem.W.subIn K (.ref cl_TooLarge) (.ref cl_TooLong) = some false)
    (su_TooLarge_TooLarge : PySem.W.subIn K (.ref cl_TooLarge) (.ref cl_TooLarge) = some true)
    (su_TooLarge_NoName : PySem.W.subIn K (.ref cl_TooLarge) (.ref cl_NoName) = some false)
    (su_TooLarge_OtherStage : PySem.W.subIn K (.ref cl_TooLarge) (.ref cl_OtherStage) = some false)
    (su_TooLarge_Shut : PySem.W.subIn K (.ref cl_TooLarge) (.ref cl_Shut) = some false)
    (su_TooLarge_WrongKind : PySem.W.subIn K (.ref cl_TooLarge) (.ref cl_WrongKind) = some false)
    (su_TooLarge_NoPiece : PySem.W.subIn K (.ref cl_TooLarge) (.ref cl_NoPiece) = some false)
    (su_TooLarge_NoGap : PySem.W.subIn K (.ref cl_TooLarge) (.ref cl_NoGap) = some false)
    (su_TooLarge_Unlike : PySem.W.subIn K (.ref cl_TooLarge) (.ref cl_Unlike) = some false)
    (su_TooLarge_GapLeft : PySem.W.subIn K (.ref cl_TooLarge) (.ref cl_GapLeft) = some false)
    (su_TooLarge_NoRub : PySem.W.subIn K (.ref cl_TooLarge) (.ref cl_NoRub) = some false)
    (kc_NoName : PySem.W.keepIn K (.ref cl_NoName) = true) (sb_NoName : PySem.W.subIn K (.ref cl_NoName) (.type "BaseException") = some true)
    (xb_NoName : PySem.W.findIn K (.ref cl_NoName) "__getattribute__" = some (some (.builtin "BaseException.__getattribute__"))) (xc_NoName : PySem.W.findIn K (.ref cl_NoName) "__getattr__" = some none) (xd_NoName : PySem.W.findIn K (.ref cl_NoName) "__class__" = some (some (.builtin "object.__class__")))
    (xe_NoName : PySem.W.specialIn K (.builtin "object.__class__") "__get__" = some (some (.builtin "getset_descriptor.__get__"))) (xf_NoName : PySem.W.takesIn K (.builtin "object.__class__") = some true) (xg_NoName : PySem.W.mroIn K cl_NoName (.type "object") = some true)
    (sv_NoName : PySem.W.subIn K (.ref cl_NoName) (.type "ValueError") = some true)
    (su_NoName_GapError : PySem.W.subIn K (.ref cl_NoName) (.ref cl_GapError) = some true)
    (su_NoName_NoPlace : PySem.W.subIn K (.ref cl_NoName) (.ref cl_NoPlace) = some false)
    (su_NoName_NoText : PySem.W.subIn K (.ref cl_NoName) (.ref cl_NoText) = some false)
    (su_NoName_NoMaking : PySem.W.subIn K (.ref cl_NoName) (.ref cl_NoMaking) = some false)
    (su_NoName_NoRow : PySem.W.subIn K (.ref cl_NoName) (.ref cl_NoRow) = some false)
    (su_NoName_TooGreat : PySem.W.subIn K (.ref cl_NoName) (.ref cl_TooGreat) = some false)
    (su_NoName_TooLong : PySem.W.subIn K (.ref cl_NoName) (.ref cl_TooLong) = some false)
    (su_NoName_TooLarge : PySem.W.subIn K (.ref cl_NoName) (.ref cl_TooLarge) = some false)
    (su_NoName_NoName : PySem.W.subIn K (.ref cl_NoName) (.ref cl_NoName) = some true)
    (su_NoName_OtherStage : PySem.W.subIn K (.ref cl_NoName) (.ref cl_OtherStage) = some false)
    (su_NoName_Shut : PySem.W.subIn K (.ref cl_NoName) (.ref cl_Shut) = some false)
    (su_NoName_WrongKind : PySem.W.subIn K (.ref cl_NoName) (.ref cl_WrongKind) = some false)
    (su_NoName_NoPiece : PySem.W.subIn K (.ref cl_NoName) (.ref cl_NoPiece) = some false)
    (su_NoName_NoGap : PySem.W.subIn K (.ref cl_NoName) (.ref cl_NoGap) = some false)
    (su_NoName_Unlike : PySem.W.subIn K (.ref cl_NoName) (.ref cl_Unlike) = some false)
    (su_NoName_GapLeft : PySem.W.subIn K (.ref cl_NoName) (.ref cl_GapLeft) = some false)
    (su_NoName_NoRub : PySem.W.subIn K (.ref cl_NoName) (.ref cl_NoRub) = some false)
    (kc_OtherStage : PySem.W.keepIn K (.ref cl_OtherStage) = true) (sb_OtherStage : PySem.W.subIn K (.ref cl_OtherStage) (.type "BaseException") = some true)
    (xb_OtherStage : PySem.W.findIn K (.ref cl_OtherStage) "__getattribute__" = some (some (.builtin "BaseException.__getattribute__"))) (xc_OtherStage : PySem.W.findIn K (.ref cl_OtherStage) "__getattr__" = some none) (xd_OtherStage : PySem.W.findIn K (.ref cl_OtherStage) "__class__" = some (some (.builtin "object.__class__")))
    (xe_OtherStage : PySem.W.specialIn K (.builtin "object.__class__") "__get__" = some (some (.builtin "getset_descriptor.__get__"))) (xf_OtherStage : PySem.W.takesIn K (.builtin "object.__class__") = some true) (xg_OtherStage : PySem.W.mroIn K cl_OtherStage (.type "object") = some true)
    (sv_OtherStage : PySem.W.subIn K (.ref cl_OtherStage) (.type "ValueError") = some true)
    (su_OtherStage_GapError : PySem.W.subIn K (.ref cl_OtherStage) (.ref cl_GapError) = some true)
    (su_OtherStage_NoPlace : PySem.W.subIn K (.ref cl_OtherStage) (.ref cl_NoPlace) = some false)
    (su_OtherStage_NoText : PySem.W.subIn K (.ref cl_OtherStage) (.ref cl_NoText) = some false)
    (su_OtherStage_NoMaking : PySem.W.subIn K (.ref cl_OtherStage) (.ref cl_NoMaking) = some false)
    (su_OtherStage_NoRow : PySem.W.subIn K (.ref cl_OtherStage) (.ref cl_NoRow) = some false)
    (su_OtherStage_TooGreat : PySem.W.subIn K (.ref cl_OtherStage) (.ref cl_TooGreat) = some false)
    (su_OtherStage_TooLong : PySem.W.subIn K (.ref cl_OtherStage) (.ref cl_TooLong) = some false)
    (su_OtherStage_TooLarge : PySem.W.subIn K (.ref cl_OtherStage) (.ref cl_TooLarge) = some false)
    (su_OtherStage_NoName : PySem.W.subIn K (.ref cl_OtherStage) (.ref cl_NoName) = some false)
    (su_OtherStage_OtherStage : PySem.W.subIn K (.ref cl_OtherStage) (.ref cl_OtherStage) = some true)
    (su_OtherStage_Shut : PySem.W.subIn K (.ref cl_OtherStage) (.ref cl_Shut) = some false)
    (su_OtherStage_WrongKind : PySem.W.subIn K (.ref cl_OtherStage) (.ref cl_WrongKind) = some false)
    (su_OtherStage_NoPiece : PySem.W.subIn K (.ref cl_OtherStage) (.ref cl_NoPiece) = some false)
    (su_OtherStage_NoGap : PySem.W.subIn K (.ref cl_OtherStage) (.ref cl_NoGap) = some false)
    (su_OtherStage_Unlike : PySem.W.subIn K (.ref cl_OtherStage) (.ref cl_Unlike) = some false)
    (su_OtherStage_GapLeft : PySem.W.subIn K (.ref cl_OtherStage) (.ref cl_GapLeft) = some false)
    (su_OtherStage_NoRub : PySem.W.subIn K (.ref cl_OtherStage) (.ref cl_NoRub) = some false)
    (kc_Shut : PySem.W.keepIn K (.ref cl_Shut) = true) (sb_Shut : PySem.W.subIn K (.ref cl_Shut) (.type "BaseException") = some true)
    (xb_Shut : PySem.W.findIn K (.ref cl_Shut) "__getattribute__" = some (some (.builtin "BaseException.__getattribute__"))) (xc_Shut : PySem.W.findIn K (.ref cl_Shut) "__getattr__" = some none) (xd_Shut : PySem.W.findIn K (.ref cl_Shut) "__class__" = some (some (.builtin "object.__class__")))
    (xe_Shut : PySem.W.specialIn K (.builtin "object.__class__") "__get__" = some (some (.builtin "getset_descriptor.__get__"))) (xf_Shut : PySem.W.takesIn K (.builtin "object.__class__") = some true) (xg_Shut : PySem.W.mroIn K cl_Shut (.type "object") = some true)
    (sv_Shut : PySem.W.subIn K (.ref cl_Shut) (.type "ValueError") = some true)
    (su_Shut_GapError : PySem.W.subIn K (.ref cl_Shut) (.ref cl_GapError) = some true)
    (su_Shut_NoPlace : PySem.W.subIn K (.ref cl_Shut) (.ref cl_NoPlace) = some false)
    (su_Shut_NoText : PySem.W.subIn K (.ref cl_Shut) (.ref cl_NoText) = some false)
    (su_Shut_NoMaking : PySem.W.subIn K (.ref cl_Shut) (.ref cl_NoMaking) = some false)
    (su_Shut_NoRow : PySem.W.subIn K (.ref cl_Shut) (.ref cl_NoRow) = some false)
    (su_Shut_TooGreat : PySem.W.subIn K (.ref cl_Shut) (.ref cl_TooGreat) = some false)
    (su_Shut_TooLong : PySem.W.subIn K (.ref cl_Shut) (.ref cl_TooLong) = some false)
    (su_Shut_TooLarge : PySem.W.subIn K (.ref cl_Shut) (.ref cl_TooLarge) = some false)
    (su_Shut_NoName : PySem.W.subIn K (.ref cl_Shut) (.ref cl_NoName) = some false)
    (su_Shut_OtherStage : PySem.W.subIn K (.ref cl_Shut) (.ref cl_OtherStage) = some false)
    (su_Shut_Shut : PySem.W.subIn K (.ref cl_Shut) (.ref cl_Shut) = some true)
    (su_Shut_WrongKind : PySem.W.subIn K (.ref cl_Shut) (.ref cl_WrongKind) = some false)
    (su_Shut_NoPiece : PySem.W.subIn K (.ref cl_Shut) (.ref cl_NoPiece) = some false)
    (su_Shut_NoGap : PySem.W.subIn K (.ref cl_Shut) (.ref cl_NoGap) = some false)
    (su_Shut_Unlike : PySem.W.subIn K (.ref cl_Shut) (.ref cl_Unlike) = some false)
    (su_Shut_GapLeft : PySem.W.subIn K (.ref cl_Shut) (.ref cl_GapLeft) = some false)
    (su_Shut_NoRub : PySem.W.subIn K (.ref cl_Shut) (.ref cl_NoRub) = some false)
    (kc_WrongKind : PySem.W.keepIn K (.ref cl_WrongKind) = true) (sb_WrongKind : PySem.W.subIn K (.ref cl_WrongKind) (.type "BaseException") = some true)
    (xb_WrongKind : PySem.W.findIn K (.ref cl_WrongKind) "__getattribute__" = some (some (.builtin "BaseException.__getattribute__"))) (xc_WrongKind : PySem.W.findIn K (.ref cl_WrongKind) "__getattr__" = some none) (xd_WrongKind : PySem.W.findIn K (.ref cl_WrongKind) "__class__" = some (some (.builtin "object.__class__")))
    (xe_WrongKind : PySem.W.specialIn K (.builtin "object.__class__") "__get__" = some (some (.builtin "getset_descriptor.__get__"))) (xf_WrongKind : PySem.W.takesIn K (.builtin "object.__class__") = some true) (xg_WrongKind : PySem.W.mroIn K cl_WrongKind (.type "object") = some true)
    (sv_WrongKind : PySem.W.subIn K (.ref cl_WrongKind) (.type "ValueError") = some true)
    (su_WrongKind_GapError : PySem.W.subIn K (.ref cl_WrongKind) (.ref cl_GapError) = some true)
    (su_WrongKind_NoPlace : PySem.W.subIn K (.ref cl_WrongKind) (.ref cl_NoPlace) = some false)
    (su_WrongKind_NoText : PySem.W.subIn K (.ref cl_WrongKind) (.ref cl_NoText) = some false)
    (su_WrongKind_NoMaking : PySem.W.subIn K (.ref cl_WrongKind) (.ref cl_NoMaking) = some false)
    (su_WrongKind_NoRow : PySem.W.subIn K (.ref cl_WrongKind) (.ref cl_NoRow) = some false)
    (su_WrongKind_TooGreat : PySem.W.subIn K (.ref cl_WrongKind) (.ref cl_TooGreat) = some false)
    (su_WrongKind_TooLong : PySem.W.subIn K (.ref cl_WrongKind) (.ref cl_TooLong) = some false)
    (su_WrongKind_TooLarge : PySem.W.subIn K (.ref cl_WrongKind) (.ref cl_TooLarge) = some false)
    (su_WrongKind_NoName : PySem.W.subIn K (.ref cl_WrongKind) (.ref cl_NoName) = some false)
    (su_WrongKind_OtherStage : PySem.W.subIn K (.ref cl_WrongKind) (.ref cl_OtherStage) = some false)
    (su_WrongKind_Shut : PySem.W.subIn K (.ref cl_WrongKind) (.ref cl_Shut) = some false)
    (su_WrongKind_WrongKind : PySem.W.subIn K (.ref cl_WrongKind) (.ref cl_WrongKind) = some true)
    (su_WrongKind_NoPiece : PySem.W.subIn K (.ref cl_WrongKind) (.ref cl_NoPiece) = some false)
    (su_WrongKind_NoGap : PySem.W.subIn K (.ref cl_WrongKind) (.ref cl_NoGap) = some false)
    (su_WrongKind_Unlike : PySem.W.subIn K (.ref cl_WrongKind) (.ref cl_Unlike) = some false)
    (su_WrongKind_GapLeft : PySem.W.subIn K (.ref cl_WrongKind) (.ref cl_GapLeft) = some false)
    (su_WrongKind_NoRub : PySem.W.subIn K (.ref cl_WrongKind) (.ref cl_NoRub) = some false)
    (kc_NoPiece : PySem.W.keepIn K (.ref cl_NoPiece) = true) (sb_NoPiece : PySem.W.subIn K (.ref cl_NoPiece) (.type "BaseException") = some true)
    (xb_NoPiece : PySem.W.findIn K (.ref cl_NoPiece) "__getattribute__" = some (some (.builtin "BaseException.__getattribute__"))) (xc_NoPiece : PySem.W.findIn K (.ref cl_NoPiece) "__getattr__" = some none) (xd_NoPiece : PySem.W.findIn K (.ref cl_NoPiece) "__class__" = some (some (.builtin "object.__class__")))
    (xe_NoPiece : PySem.W.specialIn K (.builtin "object.__class__") "__get__" = some (some (.builtin "getset_descriptor.__get__"))) (xf_NoPiece : PySem.W.takesIn K (.builtin "object.__class__") = some true) (xg_NoPiece : PySem.W.mroIn K cl_NoPiece (.type "object") = some true)
    (sv_NoPiece : PySem.W.subIn K (.ref cl_NoPiece) (.type "ValueError") = some true)
    (su_NoPiece_GapError : PySem.W.subIn K (.ref cl_NoPiece) (.ref cl_GapError) = some true)
    (su_NoPiece_NoPlace : PySem.W.subIn K (.ref cl_NoPiece) (.ref cl_NoPlace) = some false)
    (su_NoPiece_NoText : PySem.W.subIn K (.ref cl_NoPiece) (.ref cl_NoText) = some false)
    (su_NoPiece_NoMaking : PySem.W.subIn K (.ref cl_NoPiece) (.ref cl_NoMaking) = some false)
    (su_NoPiece_NoRow : PySem.W.subIn K (.ref cl_NoPiece) (.ref cl_NoRow) = some false)
    (su_NoPiece_TooGreat : PySem.W.subIn K (.ref cl_NoPiece) (.ref cl_TooGreat) = some false)
    (su_NoPiece_TooLong : PySem.W.subIn K (.ref cl_NoPiece) (.ref cl_TooLong) = some false)
    (su_NoPiece_TooLarge : PySem.W.subIn K (.ref cl_NoPiece) (.ref cl_TooLarge) = some false)
    (su_NoPiece_NoName : PySem.W.subIn K (.ref cl_NoPiece) (.ref cl_NoName) = some false)
    (su_NoPiece_OtherStage : PySem.W.subIn K (.ref cl_NoPiece) (.ref cl_OtherStage) = some false)
    (su_NoPiece_Shut : PySem.W.subIn K (.ref cl_NoPiece) (.ref cl_Shut) = some false)
    (su_NoPiece_WrongKind : PySem.W.subIn K (.ref cl_NoPiece) (.ref cl_WrongKind) = some false)
    (su_NoPiece_NoPiece : PySem.W.subIn K (.ref cl_NoPiece) (.ref cl_NoPiece) = some true)
    (su_NoPiece_NoGap : PySem.W.subIn K (.ref cl_NoPiece) (.ref cl_NoGap) = some false)
    (su_NoPiece_Unlike : PySem.W.subIn K (.ref cl_NoPiece) (.ref cl_Unlike) = some false)
    (su_NoPiece_GapLeft : PySem.W.subIn K (.ref cl_NoPiece) (.ref cl_GapLeft) = some false)
    (su_NoPiece_NoRub : PySem.W.subIn K (.ref cl_NoPiece) (.ref cl_NoRub) = some false)
    (kc_NoGap : PySem.W.keepIn K (.ref cl_NoGap) = true) (sb_NoGap : PySem.W.subIn K (.ref cl_NoGap) (.type "BaseException") = some true)
    (xb_NoGap : PySem.W.findIn K (.ref cl_NoGap) "__getattribute__" = some (some (.builtin "BaseException.__getattribute__"))) (xc_NoGap : PySem.W.findIn K (.ref cl_NoGap) "__getattr__" = some none) (xd_NoGap : PySem.W.findIn K (.ref cl_NoGap) "__class__" = some (some (.builtin "object.__class__")))
    (xe_NoGap : PySem.W.specialIn K (.builtin "object.__class__") "__get__" = some (some (.builtin "getset_descriptor.__get__"))) (xf_NoGap : PySem.W.takesIn K (.builtin "object.__class__") = some true) (xg_NoGap : PySem.W.mroIn K cl_NoGap (.type "object") = some true)
    (sv_NoGap : PySem.W.subIn K (.ref cl_NoGap) (.type "ValueError") = some true)
    (su_NoGap_GapError : PySem.W.subIn K (.ref cl_NoGap) (.ref cl_GapError) = some true)
    (su_NoGap_NoPlace : PySem.W.subIn K (.ref cl_NoGap) (.ref cl_NoPlace) = some false)
    (su_NoGap_NoText : PySem.W.subIn K (.ref cl_NoGap) (.ref cl_NoText) = some false)
    (su_NoGap_NoMaking : PySem.W.subIn K (.ref cl_NoGap) (.ref cl_NoMaking) = some false)
    (su_NoGap_NoRow : PySem.W.subIn K (.ref cl_NoGap) (.ref cl_NoRow) = some false)
    (su_NoGap_TooGreat : PySem.W.subIn K (.ref cl_NoGap) (.ref cl_TooGreat) = some false)
    (su_NoGap_TooLong : PySem.W.subIn K (.ref cl_NoGap) (.ref cl_TooLong) = some false)
    (su_NoGap_TooLarge : PySem.W.subIn K (.ref cl_NoGap) (.ref cl_TooLarge) = some false)
    (su_NoGap_NoName : PySem.W.subIn K (.ref cl_NoGap) (.ref cl_NoName) = some false)
    (su_NoGap_OtherStage : PySem.W.subIn K (.ref cl_NoGap) (.ref cl_OtherStage) = some false)
    (su_NoGap_Shut : PySem.W.subIn K (.ref cl_NoGap) (.ref cl_Shut) = some false)
    (su_NoGap_WrongKind : PySem.W.subIn K (.ref cl_NoGap) (.ref cl_WrongKind) = some false)
    (su_NoGap_NoPiece : PySem.W.subIn K (.ref cl_NoGap) (.ref cl_NoPiece) = some false)
    (su_NoGap_NoGap : PySem.W.subIn K (.ref cl_NoGap) (.ref cl_NoGap) = some true)
    (su_NoGap_Unlike : PySem.W.subIn K (.ref cl_NoGap) (.ref cl_Unlike) = some false)
    (su_NoGap_GapLeft : PySem.W.subIn K (.ref cl_NoGap) (.ref cl_GapLeft) = some false)
    (su_NoGap_NoRub : PySem.W.subIn K (.ref cl_NoGap) (.ref cl_NoRub) = some false)
    (kc_Unlike : PySem.W.keepIn K (.ref cl_Unlike) = true) (sb_Unlike : PySem.W.subIn K (.ref cl_Unlike) (.type "BaseException") = some true)
    (xb_Unlike : PySem.W.findIn K (.ref cl_Unlike) "__getattribute__" = some (some (.builtin "BaseException.__getattribute__"))) (xc_Unlike : PySem.W.findIn K (.ref cl_Unlike) "__getattr__" = some none) (xd_Unlike : PySem.W.findIn K (.ref cl_Unlike) "__class__" = some (some (.builtin "object.__class__")))
    (xe_Unlike : PySem.W.specialIn K (.builtin "object.__class__") "__get__" = some (some (.builtin "getset_descriptor.__get__"))) (xf_Unlike : PySem.W.takesIn K (.builtin "object.__class__") = some true) (xg_Unlike : PySem.W.mroIn K cl_Unlike (.type "object") = some true)
    (sv_Unlike : PySem.W.subIn K (.ref cl_Unlike) (.type "ValueError") = some true)
    (su_Unlike_GapError : PySem.W.subIn K (.ref cl_Unlike) (.ref cl_GapError) = some true)
    (su_Unlike_NoPlace : PySem.W.subIn K (.ref cl_Unlike) (.ref cl_NoPlace) = some false)
    (su_Unlike_NoText : PySem.W.subIn K (.ref cl_Unlike) (.ref cl_NoText) = some false)
    (su_Unlike_NoMaking : PySem.W.subIn K (.ref cl_Unlike) (.ref cl_NoMaking) = some false)
    (su_Unlike_NoRow : PySem.W.subIn K (.ref cl_Unlike) (.ref cl_NoRow) = some false)
    (su_Unlike_TooGreat : PySem.W.subIn K (.ref cl_Unlike) (.ref cl_TooGreat) = some false)
    (su_Unlike_TooLong : PySem.W.subIn K (.ref cl_Unlike) (.ref cl_TooLong) = some false)
    (su_Unlike_TooLarge : PySem.W.subIn K (.ref cl_Unlike) (.ref cl_TooLarge) = some false)
    (su_Unlike_NoName : PySem.W.subIn K (.ref cl_Unlike) (.ref cl_NoName) = some false)
    (su_Unlike_OtherStage : PySem.W.subIn K (.ref cl_Unlike) (.ref cl_OtherStage) = some false)
    (su_Unlike_Shut : PySem.W.subIn K (.ref cl_Unlike) (.ref cl_Shut) = some false)
    (su_Unlike_WrongKind : PySem.W.subIn K (.ref cl_Unlike) (.ref cl_WrongKind) = some false)
    (su_Unlike_NoPiece : PySem.W.subIn K (.ref cl_Unlike) (.ref cl_NoPiece) = some false)
    (su_Unlike_NoGap : PySem.W.subIn K (.ref cl_Unlike) (.ref cl_NoGap) = some false)
    (su_Unlike_Unlike : PySem.W.subIn K (.ref cl_Unlike) (.ref cl_Unlike) = some true)
    (su_Unlike_GapLeft : PySem.W.subIn K (.ref cl_Unlike) (.ref cl_GapLeft) = some false)
    (su_Unlike_NoRub : PySem.W.subIn K (.ref cl_Unlike) (.ref cl_NoRub) = some false)
    (kc_GapLeft : PySem.W.keepIn K (.ref cl_GapLeft) = true) (sb_GapLeft : PySem.W.subIn K (.ref cl_GapLeft) (.type "BaseException") = some true)
    (xb_GapLeft : PySem.W.findIn K (.ref cl_GapLeft) "__getattribute__" = some (some (.builtin "BaseException.__getattribute__"))) (xc_GapLeft : PySem.W.findIn K (.ref cl_GapLeft) "__getattr__" = some none) (xd_GapLeft : PySem.W.findIn K (.ref cl_GapLeft) "__class__" = some (some (.builtin "object.__class__")))
    (xe_GapLeft : PySem.W.specialIn K (.builtin "object.__class__") "__get__" = some (some (.builtin "getset_descriptor.__get__"))) (xf_GapLeft : PySem.W.takesIn K (.builtin "object.__class__") = some true) (xg_GapLeft : PySem.W.mroIn K cl_GapLeft (.type "object") = some true)
    (sv_GapLeft : PySem.W.subIn K (.ref cl_GapLeft) (.type "ValueError") = some true)
    (su_GapLeft_GapError : PySem.W.subIn K (.ref cl_GapLeft) (.ref cl_GapError) = some true)
    (su_GapLeft_NoPlace : PySem.W.subIn K (.ref cl_GapLeft) (.ref cl_NoPlace) = some false)
    (su_GapLeft_NoText : PySem.W.subIn K (.ref cl_GapLeft) (.ref cl_NoText) = some false)
    (su_GapLeft_NoMaking : PySem.W.subIn K (.ref cl_GapLeft) (.ref cl_NoMaking) = some false)
    (su_GapLeft_NoRow : PySem.W.subIn K (.ref cl_GapLeft) (.ref cl_NoRow) = some false)
    (su_GapLeft_TooGreat : PySem.W.subIn K (.ref cl_GapLeft) (.ref cl_TooGreat) = some false)
    (su_GapLeft_TooLong : PySem.W.subIn K (.ref cl_GapLeft) (.ref cl_TooLong) = some false)
    (su_GapLeft_TooLarge : PySem.W.subIn K (.ref cl_GapLeft) (.ref cl_TooLarge) = some false)
    (su_GapLeft_NoName : PySem.W.subIn K (.ref cl_GapLeft) (.ref cl_NoName) = some false)
    (su_GapLeft_OtherStage : PySem.W.subIn K (.ref cl_GapLeft) (.ref cl_OtherStage) = some false)
    (su_GapLeft_Shut : PySem.W.subIn K (.ref cl_GapLeft) (.ref cl_Shut) = some false)
    (su_GapLeft_WrongKind : PySem.W.subIn K (.ref cl_GapLeft) (.ref cl_WrongKind) = some false)
    (su_GapLeft_NoPiece : PySem.W.subIn K (.ref cl_GapLeft) (.ref cl_NoPiece) = some false)
    (su_GapLeft_NoGap : PySem.W.subIn K (.ref cl_GapLeft) (.ref cl_NoGap) = some false)
    (su_GapLeft_Unlike : PySem.W.subIn K (.ref cl_GapLeft) (.ref cl_Unlike) = some false)
    (su_GapLeft_GapLeft : PySem.W.subIn K (.ref cl_GapLeft) (.ref cl_GapLeft) = some true)
    (su_GapLeft_NoRub : PySem.W.subIn K (.ref cl_GapLeft) (.ref cl_NoRub) = some false)
    (kc_NoRub : PySem.W.keepIn K (.ref cl_NoRub) = true) (sb_NoRub : PySem.W.subIn K (.ref cl_NoRub) (.type "BaseException") = some true)
    (xb_NoRub : PySem.W.findIn K (.ref cl_NoRub) "__getattribute__" = some (some (.builtin "BaseException.__getattribute__"))) (xc_NoRub : PySem.W.findIn K (.ref cl_NoRub) "__getattr__" = some none) (xd_NoRub : PySem.W.findIn K (.ref cl_NoRub) "__class__" = some (some (.builtin "object.__class__")))
    (xe_NoRub : PySem.W.specialIn K (.builtin "object.__class__") "__get__" = some (some (.builtin "getset_descriptor.__get__"))) (xf_NoRub : PySem.W.takesIn K (.builtin "object.__class__") = some true) (xg_NoRub : PySem.W.mroIn K cl_NoRub (.type "object") = some true)
    (sv_NoRub : PySem.W.subIn K (.ref cl_NoRub) (.type "ValueError") = some true)
    (su_NoRub_GapError : PySem.W.subIn K (.ref cl_NoRub) (.ref cl_GapError) = some true)
    (su_NoRub_NoPlace : PySem.W.subIn K (.ref cl_NoRub) (.ref cl_NoPlace) = some false)
    (su_NoRub_NoText : PySem.W.subIn K (.ref cl_NoRub) (.ref cl_NoText) = some false)
    (su_NoRub_NoMaking : PySem.W.subIn K (.ref cl_NoRub) (.ref cl_NoMaking) = some false)
    (su_NoRub_NoRow : PySem.W.subIn K (.ref cl_NoRub) (.ref cl_NoRow) = some false)
    (su_NoRub_TooGreat : PySem.W.subIn K (.ref cl_NoRub) (.ref cl_TooGreat) = some false)
    (su_NoRub_TooLong : PySem.W.subIn K (.ref cl_NoRub) (.ref cl_TooLong) = some false)
    (su_NoRub_TooLarge : PySem.W.subIn K (.ref cl_NoRub) (.ref cl_TooLarge) = some false)
    (su_NoRub_NoName : PySem.W.subIn K (.ref cl_NoRub) (.ref cl_NoName) = some false)
    (su_NoRub_OtherStage : PySem.W.subIn K (.ref cl_NoRub) (.ref cl_OtherStage) = some false)
    (su_NoRub_Shut : PySem.W.subIn K (.ref cl_NoRub) (.ref cl_Shut) = some false)
    (su_NoRub_WrongKind : PySem.W.subIn K (.ref cl_NoRub) (.ref cl_WrongKind) = some false)
    (su_NoRub_NoPiece : PySem.W.subIn K (.ref cl_NoRub) (.ref cl_NoPiece) = some false)
    (su_NoRub_NoGap : PySem.W.subIn K (.ref cl_NoRub) (.ref cl_NoGap) = some false)
    (su_NoRub_Unlike : PySem.W.subIn K (.ref cl_NoRub) (.ref cl_Unlike) = some false)
    (su_NoRub_GapLeft : PySem.W.subIn K (.ref cl_NoRub) (.ref cl_GapLeft) = some false)
    (su_NoRub_NoRub : PySem.W.subIn K (.ref cl_NoRub) (.ref cl_NoRub) = some true)
    (z_ValueError : PySem.W.nsIn K mainGlobals "ValueError" = some none)
    (z_all : PySem.W.nsIn K mainGlobals "all" = some none)
    (z_enumerate : PySem.W.nsIn K mainGlobals "enumerate" = some none)
    (z_isinstance : PySem.W.nsIn K mainGlobals "isinstance" = some none)
    (z_len : PySem.W.nsIn K mainGlobals "len" = some none)
    (z_list : PySem.W.nsIn K mainGlobals "list" = some none)
    (z_max : PySem.W.nsIn K mainGlobals "max" = some none)
    (z_min : PySem.W.nsIn K mainGlobals "min" = some none)
    (z_range : PySem.W.nsIn K mainGlobals "range" = some none)
    (z_tuple : PySem.W.nsIn K mainGlobals "tuple" = some none)
    : ∃ fd : FuncData, (∀ (s : Shared) (v : Value), BindsTo s fd ⟨[v], []⟩ [("_law_script", v)]) ∧ ∀ base : Heap, K.In base → base.Ns mainGlobals mg → FnOk l.prog w K mg base CX0 30 fa fd ["_law_script"] (spOf K sp_law) := by
  have e := hfa.symm.trans (PySem.W.mg_of X G a_law)
  cases e
  have T : Tx K mg cl_GapError cl_NoPlace cl_NoText cl_NoMaking cl_NoRow cl_TooGreat cl_TooLong cl_TooLarge cl_NoName cl_OtherStage cl_Shut cl_WrongKind cl_NoPiece cl_NoGap cl_Unlike cl_GapLeft cl_NoRub := ⟨PySem.W.mg_none_of X G z_ValueError, PySem.W.mg_none_of X G z_all, PySem.W.mg_none_of X G z_enumerate, PySem.W.mg_none_of X G z_isinstance, PySem.W.mg_none_of X G z_len, PySem.W.mg_none_of X G z_list, PySem.W.mg_none_of X G z_max, PySem.W.mg_none_of X G z_min, PySem.W.mg_none_of X G z_range, PySem.W.mg_none_of X G z_tuple, fnF_mk (PySem.W.mg_of X G a_law_mixed) (fun_mk (st := s_law_mixed) l_law_mixed c_law_mixed k_law_mixed), fnF_mk (PySem.W.mg_of X G a_law_pot) (fun_mk (st := s_law_pot) l_law_pot c_law_pot k_law_pot), fnF_mk (PySem.W.mg_of X G a_law_draw) (fun_mk (st := s_law_draw) l_law_draw c_law_draw k_law_draw), fnF_mk (PySem.W.mg_of X G a_law_marks) (fun_mk (st := s_law_marks) l_law_marks c_law_marks k_law_marks), fnF_mk (PySem.W.mg_of X G a_law_errors) (fun_mk (st := s_law_errors) l_law_errors c_law_errors k_law_errors), fnF_mk (PySem.W.mg_of X G a_law_caught) (fun_mk (st := s_law_caught) l_law_caught c_law_caught k_law_caught), fnF_mk (PySem.W.mg_of X G a_law_good) (fun_mk (st := s_law_good) l_law_good c_law_good k_law_good), fnF_mk (PySem.W.mg_of X G a_law) (fun_mk (st := s_law) l_law c_law k_law), GlD.cls (PySem.W.mg_of X G aX_GapError), PySem.W.mg_of X G aX_GapError, GlD.cls (PySem.W.mg_of X G aX_NoPlace), PySem.W.mg_of X G aX_NoPlace, GlD.cls (PySem.W.mg_of X G aX_NoText), PySem.W.mg_of X G aX_NoText, GlD.cls (PySem.W.mg_of X G aX_NoMaking), PySem.W.mg_of X G aX_NoMaking, GlD.cls (PySem.W.mg_of X G aX_NoRow), PySem.W.mg_of X G aX_NoRow, GlD.cls (PySem.W.mg_of X G aX_TooGreat), PySem.W.mg_of X G aX_TooGreat, GlD.cls (PySem.W.mg_of X G aX_TooLong), PySem.W.mg_of X G aX_TooLong, GlD.cls (PySem.W.mg_of X G aX_TooLarge), PySem.W.mg_of X G aX_TooLarge, GlD.cls (PySem.W.mg_of X G aX_NoName), PySem.W.mg_of X G aX_NoName, GlD.cls (PySem.W.mg_of X G aX_OtherStage), PySem.W.mg_of X G aX_OtherStage, GlD.cls (PySem.W.mg_of X G aX_Shut), PySem.W.mg_of X G aX_Shut, GlD.cls (PySem.W.mg_of X G aX_WrongKind), PySem.W.mg_of X G aX_WrongKind, GlD.cls (PySem.W.mg_of X G aX_NoPiece), PySem.W.mg_of X G aX_NoPiece, GlD.cls (PySem.W.mg_of X G aX_NoGap), PySem.W.mg_of X G aX_NoGap, GlD.cls (PySem.W.mg_of X G aX_Unlike), PySem.W.mg_of X G aX_Unlike, GlD.cls (PySem.W.mg_of X G aX_GapLeft), PySem.W.mg_of X G aX_GapLeft, GlD.cls (PySem.W.mg_of X G aX_NoRub), PySem.W.mg_of X G aX_NoRub, ⟨ex_NoPlace, PySem.W.mg_of X G aX_NoPlace, kc_NoPlace, sb_NoPlace, ty_NoPlace⟩, ⟨ex_NoText, PySem.W.mg_of X G aX_NoText, kc_NoText, sb_NoText, ty_NoText⟩, ⟨ex_NoMaking, PySem.W.mg_of X G aX_NoMaking, kc_NoMaking, sb_NoMaking, ty_NoMaking⟩, ⟨ex_NoRow, PySem.W.mg_of X G aX_NoRow, kc_NoRow, sb_NoRow, ty_NoRow⟩, ⟨ox_NoName, PySem.W.mg_of X G aX_NoName, fp_NoName, fs_NoName, ⟨f_NoName___init__, _, fun_mk (st := s_NoName___init__) l_NoName___init__ c_NoName___init__ k_NoName___init__, a_NoName___init__, t_NoName___init__⟩⟩, ⟨xb_NoName, xc_NoName, sb_NoName, hd_NoName⟩, fp_NoName, fs_NoName, ⟨ox_OtherStage, PySem.W.mg_of X G aX_OtherStage, fp_OtherStage, fs_OtherStage, ⟨f_OtherStage___init__, _, fun_mk (st := s_OtherStage___init__) l_OtherStage___init__ c_OtherStage___init__ k_OtherStage___init__, a_OtherStage___init__, t_OtherStage___init__⟩⟩, ⟨xb_OtherStage, xc_OtherStage, sb_OtherStage, hd_OtherStage⟩, fp_OtherStage, fs_OtherStage, ⟨ox_Shut, PySem.W.mg_of X G aX_Shut, fp_Shut, fs_Shut, ⟨f_Shut___init__, _, fun_mk (st := s_Shut___init__) l_Shut___init__ c_Shut___init__ k_Shut___init__, a_Shut___init__, t_Shut___init__⟩⟩, ⟨xb_Shut, xc_Shut, sb_Shut, hd_Shut⟩, fp_Shut, fs_Shut, ⟨ox_WrongKind, PySem.W.mg_of X G aX_WrongKind, fp_WrongKind, fs_WrongKind, ⟨f_WrongKind___init__, _, fun_mk (st := s_WrongKind___init__) l_WrongKind___init__ c_WrongKind___init__ k_WrongKind___init__, a_WrongKind___init__, t_WrongKind___init__⟩⟩, ⟨xb_WrongKind, xc_WrongKind, sb_WrongKind, hd_WrongKind⟩, fp_WrongKind, fs_WrongKind, ⟨ox_NoPiece, PySem.W.mg_of X G aX_NoPiece, fp_NoPiece, fs_NoPiece, ⟨f_NoPiece___init__, _, fun_mk (st := s_NoPiece___init__) l_NoPiece___init__ c_NoPiece___init__ k_NoPiece___init__, a_NoPiece___init__, t_NoPiece___init__⟩⟩, ⟨xb_NoPiece, xc_NoPiece, sb_NoPiece, hd_NoPiece⟩, fp_NoPiece, fs_NoPiece, ⟨ox_NoGap, PySem.W.mg_of X G aX_NoGap, fp_NoGap, fs_NoGap, ⟨f_NoGap___init__, _, fun_mk (st := s_NoGap___init__) l_NoGap___init__ c_NoGap___init__ k_NoGap___init__, a_NoGap___init__, t_NoGap___init__⟩⟩, ⟨xb_NoGap, xc_NoGap, sb_NoGap, hd_NoGap⟩, fp_NoGap, fs_NoGap, ⟨ox_Unlike, PySem.W.mg_of X G aX_Unlike, fp_Unlike, fs_Unlike, ⟨f_Unlike___init__, _, fun_mk (st := s_Unlike___init__) l_Unlike___init__ c_Unlike___init__ k_Unlike___init__, a_Unlike___init__, t_Unlike___init__⟩⟩, ⟨xb_Unlike, xc_Unlike, sb_Unlike, hd_Unlike⟩, fp_Unlike, fs_Unlike, ⟨ox_GapLeft, PySem.W.mg_of X G aX_GapLeft, fp_GapLeft, fs_GapLeft, ⟨f_GapLeft___init__, _, fun_mk (st := s_GapLeft___init__) l_GapLeft___init__ c_GapLeft___init__ k_GapLeft___init__, a_GapLeft___init__, t_GapLeft___init__⟩⟩, ⟨xb_GapLeft, xc_GapLeft, sb_GapLeft, hd_GapLeft⟩, fp_GapLeft, fs_GapLeft, ⟨ox_NoRub, PySem.W.mg_of X G aX_NoRub, fp_NoRub, fs_NoRub, ⟨f_NoRub___init__, _, fun_mk (st := s_NoRub___init__) l_NoRub___init__ c_NoRub___init__ k_NoRub___init__, a_NoRub___init__, t_NoRub___init__⟩⟩, ⟨xb_NoRub, xc_NoRub, sb_NoRub, hd_NoRub⟩, fp_NoRub, fs_NoRub, ⟨ox_TooGreat, PySem.W.mg_of X G aX_TooGreat, fp_TooGreat, ⟨f_TooGreat___init__, _, fun_mk (st := s_TooGreat___init__) l_TooGreat___init__ c_TooGreat___init__ k_TooGreat___init__, a_TooGreat___init__, t_TooGreat___init__⟩⟩, ⟨xb_TooGreat, xc_TooGreat, sb_TooGreat, hd_TooGreat⟩, fp_TooGreat, ⟨ox_TooLong, PySem.W.mg_of X G aX_TooLong, fp_TooLong, ⟨f_TooLong___init__, _, fun_mk (st := s_TooLong___init__) l_TooLong___init__ c_TooLong___init__ k_TooLong___init__, a_TooLong___init__, t_TooLong___init__⟩⟩, ⟨xb_TooLong, xc_TooLong, sb_TooLong, hd_TooLong⟩, fp_TooLong, ⟨ox_TooLarge, PySem.W.mg_of X G aX_TooLarge, fp_TooLarge, ⟨f_TooLarge___init__, _, fun_mk (st := s_TooLarge___init__) l_TooLarge___init__ c_TooLarge___init__ k_TooLarge___init__, a_TooLarge___init__, t_TooLarge___init__⟩⟩, ⟨xb_TooLarge, xc_TooLarge, sb_TooLarge, hd_TooLarge⟩, fp_TooLarge, ⟨r1_GapError, r2_GapError⟩, vi_GapError, ⟨xa_NoPlace, xb_NoPlace, xc_NoPlace, sb_NoPlace, xd_NoPlace, xe_NoPlace, xf_NoPlace, xg_NoPlace⟩, PySem.W.exm_ref sb_GapError hd_GapError ty_GapError su_NoPlace_GapError, kit_t (by decide +kernel) sv_NoPlace, kit_r xa_GapError ty_GapError su_NoPlace_NoPlace su_NoPlace_GapError, kit_r xa_NoPlace ty_NoPlace su_NoPlace_NoPlace su_NoPlace_NoPlace, kit_r xa_NoText ty_NoText su_NoPlace_NoPlace su_NoPlace_NoText, kit_r xa_NoMaking ty_NoMaking su_NoPlace_NoPlace su_NoPlace_NoMaking, kit_r xa_NoRow ty_NoRow su_NoPlace_NoPlace su_NoPlace_NoRow, kit_r xa_TooGreat ty_TooGreat su_NoPlace_NoPlace su_NoPlace_TooGreat, kit_r xa_TooLong ty_TooLong su_NoPlace_NoPlace su_NoPlace_TooLong, kit_r xa_TooLarge ty_TooLarge su_NoPlace_NoPlace su_NoPlace_TooLarge, kit_r xa_NoName ty_NoName su_NoPlace_NoPlace su_NoPlace_NoName, kit_r xa_OtherStage ty_OtherStage su_NoPlace_NoPlace su_NoPlace_OtherStage, kit_r xa_Shut ty_Shut su_NoPlace_NoPlace su_NoPlace_Shut, kit_r xa_WrongKind ty_WrongKind su_NoPlace_NoPlace su_NoPlace_WrongKind, kit_r xa_NoPiece ty_NoPiece su_NoPlace_NoPlace su_NoPlace_NoPiece, kit_r xa_NoGap ty_NoGap su_NoPlace_NoPlace su_NoPlace_NoGap, kit_r xa_Unlike ty_Unlike su_NoPlace_NoPlace su_NoPlace_Unlike, kit_r xa_GapLeft ty_GapLeft su_NoPlace_NoPlace su_NoPlace_GapLeft, kit_r xa_NoRub ty_NoRub su_NoPlace_NoPlace su_NoPlace_NoRub, ⟨xa_NoText, xb_NoText, xc_NoText, sb_NoText, xd_NoText, xe_NoText, xf_NoText, xg_NoText⟩, PySem.W.exm_ref sb_GapError hd_GapError ty_GapError su_NoText_GapError, kit_t (by decide +kernel) sv_NoText, kit_r xa_GapError ty_GapError su_NoText_NoText su_NoText_GapError, kit_r xa_NoPlace ty_NoPlace su_NoText_NoText su_NoText_NoPlace, kit_r xa_NoText ty_NoText su_NoText_NoText su_NoText_NoText, kit_r xa_NoMaking ty_NoMaking su_NoText_NoText su_NoText_NoMaking, kit_r xa_NoRow ty_NoRow su_NoText_NoText su_NoText_NoRow, kit_r xa_TooGreat ty_TooGreat su_NoText_NoText su_NoText_TooGreat, kit_r xa_TooLong ty_TooLong su_NoText_NoText su_NoText_TooLong, kit_r xa_TooLarge ty_TooLarge su_NoText_NoText su_NoText_TooLarge, kit_r xa_NoName ty_NoName su_NoText_NoText su_NoText_NoName, kit_r xa_OtherStage ty_OtherStage su_NoText_NoText su_NoText_OtherStage, kit_r xa_Shut ty_Shut su_NoText_NoText su_NoText_Shut, kit_r xa_WrongKind ty_WrongKind su_NoText_NoText su_NoText_WrongKind, kit_r xa_NoPiece ty_NoPiece su_NoText_NoText su_NoText_NoPiece, kit_r xa_NoGap ty_NoGap su_NoText_NoText su_NoText_NoGap, kit_r xa_Unlike ty_Unlike su_NoText_NoText su_NoText_Unlike, kit_r xa_GapLeft ty_GapLeft su_NoText_NoText su_NoText_GapLeft, kit_r xa_NoRub ty_NoRub su_NoText_NoText su_NoText_NoRub, ⟨xa_NoMaking, xb_NoMaking, xc_NoMaking, sb_NoMaking, xd_NoMaking, xe_NoMaking, xf_NoMaking, xg_NoMaking⟩, PySem.W.exm_ref sb_GapError hd_GapError ty_GapError su_NoMaking_GapError, kit_t (by decide +kernel) sv_NoMaking, kit_r xa_GapError ty_GapError su_NoMaking_NoMaking su_NoMaking_GapError, kit_r xa_NoPlace ty_NoPlace su_NoMaking_NoMaking su_NoMaking_NoPlace, kit_r xa_NoText ty_NoText su_NoMaking_NoMaking su_NoMaking_NoText, kit_r xa_NoMaking ty_NoMaking su_NoMaking_NoMaking su_NoMaking_NoMaking, kit_r xa_NoRow ty_NoRow su_NoMaking_NoMaking su_NoMaking_NoRow, kit_r xa_TooGreat ty_TooGreat su_NoMaking_NoMaking su_NoMaking_TooGreat, kit_r xa_TooLong ty_TooLong su_NoMaking_NoMaking su_NoMaking_TooLong, kit_r xa_TooLarge ty_TooLarge su_NoMaking_NoMaking su_NoMaking_TooLarge, kit_r xa_NoName ty_NoName su_NoMaking_NoMaking su_NoMaking_NoName, kit_r xa_OtherStage ty_OtherStage su_NoMaking_NoMaking su_NoMaking_OtherStage, kit_r xa_Shut ty_Shut su_NoMaking_NoMaking su_NoMaking_Shut, kit_r xa_WrongKind ty_WrongKind su_NoMaking_NoMaking su_NoMaking_WrongKind, kit_r xa_NoPiece ty_NoPiece su_NoMaking_NoMaking su_NoMaking_NoPiece, kit_r xa_NoGap ty_NoGap su_NoMaking_NoMaking su_NoMaking_NoGap, kit_r xa_Unlike ty_Unlike su_NoMaking_NoMaking su_NoMaking_Unlike, kit_r xa_GapLeft ty_GapLeft su_NoMaking_NoMaking su_NoMaking_GapLeft, kit_r xa_NoRub ty_NoRub su_NoMaking_NoMaking su_NoMaking_NoRub, ⟨xa_NoRow, xb_NoRow, xc_NoRow, sb_NoRow, xd_NoRow, xe_NoRow, xf_NoRow, xg_NoRow⟩, PySem.W.exm_ref sb_GapError hd_GapError ty_GapError su_NoRow_GapError, kit_t (by decide +kernel) sv_NoRow, kit_r xa_GapError ty_GapError su_NoRow_NoRow su_NoRow_GapError, kit_r xa_NoPlace ty_NoPlace su_NoRow_NoRow su_NoRow_NoPlace, kit_r xa_NoText ty_NoText su_NoRow_NoRow su_NoRow_NoText, kit_r xa_NoMaking ty_NoMaking su_NoRow_NoRow su_NoRow_NoMaking, kit_r xa_NoRow ty_NoRow su_NoRow_NoRow su_NoRow_NoRow, kit_r xa_TooGreat ty_TooGreat su_NoRow_NoRow su_NoRow_TooGreat, kit_r xa_TooLong ty_TooLong su_NoRow_NoRow su_NoRow_TooLong, kit_r xa_TooLarge ty_TooLarge su_NoRow_NoRow su_NoRow_TooLarge, kit_r xa_NoName ty_NoName su_NoRow_NoRow su_NoRow_NoName, kit_r xa_OtherStage ty_OtherStage su_NoRow_NoRow su_NoRow_OtherStage, kit_r xa_Shut ty_Shut su_NoRow_NoRow su_NoRow_Shut, kit_r xa_WrongKind ty_WrongKind su_NoRow_NoRow su_NoRow_WrongKind, kit_r xa_NoPiece ty_NoPiece su_NoRow_NoRow su_NoRow_NoPiece, kit_r xa_NoGap ty_NoGap su_NoRow_NoRow su_NoRow_NoGap, kit_r xa_Unlike ty_Unlike su_NoRow_NoRow su_NoRow_Unlike, kit_r xa_GapLeft ty_GapLeft su_NoRow_NoRow su_NoRow_GapLeft, kit_r xa_NoRub ty_NoRub su_NoRow_NoRow su_NoRow_NoRub, ⟨xa_TooGreat, xb_TooGreat, xc_TooGreat, sb_TooGreat, xd_TooGreat, xe_TooGreat, xf_TooGreat, xg_TooGreat⟩, PySem.W.exm_ref sb_GapError hd_GapError ty_GapError su_TooGreat_GapError, kit_t (by decide +kernel) sv_TooGreat, kit_r xa_GapError ty_GapError su_TooGreat_TooGreat su_TooGreat_GapError, kit_r xa_NoPlace ty_NoPlace su_TooGreat_TooGreat su_TooGreat_NoPlace, kit_r xa_NoText ty_NoText su_TooGreat_TooGreat su_TooGreat_NoText, kit_r xa_NoMaking ty_NoMaking su_TooGreat_TooGreat su_TooGreat_NoMaking, kit_r xa_NoRow ty_NoRow su_TooGreat_TooGreat su_TooGreat_NoRow, kit_r xa_TooGreat ty_TooGreat su_TooGreat_TooGreat su_TooGreat_TooGreat, kit_r xa_TooLong ty_TooLong su_TooGreat_TooGreat su_TooGreat_TooLong, kit_r xa_TooLarge ty_TooLarge su_TooGreat_TooGreat su_TooGreat_TooLarge, kit_r xa_NoName ty_NoName su_TooGreat_TooGreat su_TooGreat_NoName, kit_r xa_OtherStage ty_OtherStage su_TooGreat_TooGreat su_TooGreat_OtherStage, kit_r xa_Shut ty_Shut su_TooGreat_TooGreat su_TooGreat_Shut, kit_r xa_WrongKind ty_WrongKind su_TooGreat_TooGreat su_TooGreat_WrongKind, kit_r xa_NoPiece ty_NoPiece su_TooGreat_TooGreat su_TooGreat_NoPiece, kit_r xa_NoGap ty_NoGap su_TooGreat_TooGreat su_TooGreat_NoGap, kit_r xa_Unlike ty_Unlike su_TooGreat_TooGreat su_TooGreat_Unlike, kit_r xa_GapLeft ty_GapLeft su_TooGreat_TooGreat su_TooGreat_GapLeft, kit_r xa_NoRub ty_NoRub su_TooGreat_TooGreat su_TooGreat_NoRub, ⟨xa_TooLong, xb_TooLong, xc_TooLong, sb_TooLong, xd_TooLong, xe_TooLong, xf_TooLong, xg_TooLong⟩, PySem.W.exm_ref sb_GapError hd_GapError ty_GapError su_TooLong_GapError, kit_t (by decide +kernel) sv_TooLong, kit_r xa_GapError ty_GapError su_TooLong_TooLong su_TooLong_GapError, kit_r xa_NoPlace ty_NoPlace su_TooLong_TooLong su_TooLong_NoPlace, kit_r xa_NoText ty_NoText su_TooLong_TooLong su_TooLong_NoText, kit_r xa_NoMaking ty_NoMaking su_TooLong_TooLong su_TooLong_NoMaking, kit_r xa_NoRow ty_NoRow su_TooLong_TooLong su_TooLong_NoRow, kit_r xa_TooGreat ty_TooGreat su_TooLong_TooLong su_TooLong_TooGreat, kit_r xa_TooLong ty_TooLong su_TooLong_TooLong su_TooLong_TooLong, kit_r xa_TooLarge ty_TooLarge su_TooLong_TooLong su_TooLong_TooLarge, kit_r xa_NoName ty_NoName su_TooLong_TooLong su_TooLong_NoName, kit_r xa_OtherStage ty_OtherStage su_TooLong_TooLong su_TooLong_OtherStage, kit_r xa_Shut ty_Shut su_TooLong_TooLong su_TooLong_Shut, kit_r xa_WrongKind ty_WrongKind su_TooLong_TooLong su_TooLong_WrongKind, kit_r xa_NoPiece ty_NoPiece su_TooLong_TooLong su_TooLong_NoPiece, kit_r xa_NoGap ty_NoGap su_TooLong_TooLong su_TooLong_NoGap, kit_r xa_Unlike ty_Unlike su_TooLong_TooLong su_TooLong_Unlike, kit_r xa_GapLeft ty_GapLeft su_TooLong_TooLong su_TooLong_GapLeft, kit_r xa_NoRub ty_NoRub su_TooLong_TooLong su_TooLong_NoRub, ⟨xa_TooLarge, xb_TooLarge, xc_TooLarge, sb_TooLarge, xd_TooLarge, xe_TooLarge, xf_TooLarge, xg_TooLarge⟩, PySem.W.exm_ref sb_GapError hd_GapError ty_GapError su_TooLarge_GapError, kit_t (by decide +kernel) sv_TooLarge, kit_r xa_GapError ty_GapError su_TooLarge_TooLarge su_TooLarge_GapError, kit_r xa_NoPlace ty_NoPlace su_TooLarge_TooLarge su_TooLarge_NoPlace, kit_r xa_NoText ty_NoText su_TooLarge_TooLarge su_TooLarge_NoText, kit_r xa_NoMaking ty_NoMaking su_TooLarge_TooLarge su_TooLarge_NoMaking, kit_r xa_NoRow ty_NoRow su_TooLarge_TooLarge su_TooLarge_NoRow, kit_r xa_TooGreat ty_TooGreat su_TooLarge_TooLarge su_TooLarge_TooGreat, kit_r xa_TooLong ty_TooLong su_TooLarge_TooLarge su_TooLarge_TooLong, kit_r xa_TooLarge ty_TooLarge su_TooLarge_TooLarge su_TooLarge_TooLarge, kit_r xa_NoName ty_NoName su_TooLarge_TooLarge su_TooLarge_NoName, kit_r xa_OtherStage ty_OtherStage su_TooLarge_TooLarge su_TooLarge_OtherStage, kit_r xa_Shut ty_Shut su_TooLarge_TooLarge su_TooLarge_Shut, kit_r xa_WrongKind ty_WrongKind su_TooLarge_TooLarge su_TooLarge_WrongKind, kit_r xa_NoPiece ty_NoPiece su_TooLarge_TooLarge su_TooLarge_NoPiece, kit_r xa_NoGap ty_NoGap su_TooLarge_TooLarge su_TooLarge_NoGap, kit_r xa_Unlike ty_Unlike su_TooLarge_TooLarge su_TooLarge_Unlike, kit_r xa_GapLeft ty_GapLeft su_TooLarge_TooLarge su_TooLarge_GapLeft, kit_r xa_NoRub ty_NoRub su_TooLarge_TooLarge su_TooLarge_NoRub, ⟨xa_NoName, xb_NoName, xc_NoName, sb_NoName, xd_NoName, xe_NoName, xf_NoName, xg_NoName⟩, PySem.W.exm_ref sb_GapError hd_GapError ty_GapError su_NoName_GapError, kit_t (by decide +kernel) sv_NoName, kit_r xa_GapError ty_GapError su_NoName_NoName su_NoName_GapError, kit_r xa_NoPlace ty_NoPlace su_NoName_NoName su_NoName_NoPlace, kit_r xa_NoText ty_NoText su_NoName_NoName su_NoName_NoText, kit_r xa_NoMaking ty_NoMaking su_NoName_NoName su_NoName_NoMaking, kit_r xa_NoRow ty_NoRow su_NoName_NoName su_NoName_NoRow, kit_r xa_TooGreat ty_TooGreat su_NoName_NoName su_NoName_TooGreat, kit_r xa_TooLong ty_TooLong su_NoName_NoName su_NoName_TooLong, kit_r xa_TooLarge ty_TooLarge su_NoName_NoName su_NoName_TooLarge, kit_r xa_NoName ty_NoName su_NoName_NoName su_NoName_NoName, kit_r xa_OtherStage ty_OtherStage su_NoName_NoName su_NoName_OtherStage, kit_r xa_Shut ty_Shut su_NoName_NoName su_NoName_Shut, kit_r xa_WrongKind ty_WrongKind su_NoName_NoName su_NoName_WrongKind, kit_r xa_NoPiece ty_NoPiece su_NoName_NoName su_NoName_NoPiece, kit_r xa_NoGap ty_NoGap su_NoName_NoName su_NoName_NoGap, kit_r xa_Unlike ty_Unlike su_NoName_NoName su_NoName_Unlike, kit_r xa_GapLeft ty_GapLeft su_NoName_NoName su_NoName_GapLeft, kit_r xa_NoRub ty_NoRub su_NoName_NoName su_NoName_NoRub, ⟨xa_OtherStage, xb_OtherStage, xc_OtherStage, sb_OtherStage, xd_OtherStage, xe_OtherStage, xf_OtherStage, xg_OtherStage⟩, PySem.W.exm_ref sb_GapError hd_GapError ty_GapError su_OtherStage_GapError, kit_t (by decide +kernel) sv_OtherStage, kit_r xa_GapError ty_GapError su_OtherStage_OtherStage su_OtherStage_GapError, kit_r xa_NoPlace ty_NoPlace su_OtherStage_OtherStage su_OtherStage_NoPlace, kit_r xa_NoText ty_NoText su_OtherStage_OtherStage su_OtherStage_NoText, kit_r xa_NoMaking ty_NoMaking su_OtherStage_OtherStage su_OtherStage_NoMaking, kit_r xa_NoRow ty_NoRow su_OtherStage_OtherStage su_OtherStage_NoRow, kit_r xa_TooGreat ty_TooGreat su_OtherStage_OtherStage su_OtherStage_TooGreat, kit_r xa_TooLong ty_TooLong su_OtherStage_OtherStage su_OtherStage_TooLong, kit_r xa_TooLarge ty_TooLarge su_OtherStage_OtherStage su_OtherStage_TooLarge, kit_r xa_NoName ty_NoName su_OtherStage_OtherStage su_OtherStage_NoName, kit_r xa_OtherStage ty_OtherStage su_OtherStage_OtherStage su_OtherStage_OtherStage, kit_r xa_Shut ty_Shut su_OtherStage_OtherStage su_OtherStage_Shut, kit_r xa_WrongKind ty_WrongKind su_OtherStage_OtherStage su_OtherStage_WrongKind, kit_r xa_NoPiece ty_NoPiece su_OtherStage_OtherStage su_OtherStage_NoPiece, kit_r xa_NoGap ty_NoGap su_OtherStage_OtherStage su_OtherStage_NoGap, kit_r xa_Unlike ty_Unlike su_OtherStage_OtherStage su_OtherStage_Unlike, kit_r xa_GapLeft ty_GapLeft su_OtherStage_OtherStage su_OtherStage_GapLeft, kit_r xa_NoRub ty_NoRub su_OtherStage_OtherStage su_OtherStage_NoRub, ⟨xa_Shut, xb_Shut, xc_Shut, sb_Shut, xd_Shut, xe_Shut, xf_Shut, xg_Shut⟩, PySem.W.exm_ref sb_GapError hd_GapError ty_GapError su_Shut_GapError, kit_t (by decide +kernel) sv_Shut, kit_r xa_GapError ty_GapError su_Shut_Shut su_Shut_GapError, kit_r xa_NoPlace ty_NoPlace su_Shut_Shut su_Shut_NoPlace, kit_r xa_NoText ty_NoText su_Shut_Shut su_Shut_NoText, kit_r xa_NoMaking ty_NoMaking su_Shut_Shut su_Shut_NoMaking, kit_r xa_NoRow ty_NoRow su_Shut_Shut su_Shut_NoRow, kit_r xa_TooGreat ty_TooGreat su_Shut_Shut su_Shut_TooGreat, kit_r xa_TooLong ty_TooLong su_Shut_Shut su_Shut_TooLong, kit_r xa_TooLarge ty_TooLarge su_Shut_Shut su_Shut_TooLarge, kit_r xa_NoName ty_NoName su_Shut_Shut su_Shut_NoName, kit_r xa_OtherStage ty_OtherStage su_Shut_Shut su_Shut_OtherStage, kit_r xa_Shut ty_Shut su_Shut_Shut su_Shut_Shut, kit_r xa_WrongKind ty_WrongKind su_Shut_Shut su_Shut_WrongKind, kit_r xa_NoPiece ty_NoPiece su_Shut_Shut su_Shut_NoPiece, kit_r xa_NoGap ty_NoGap su_Shut_Shut su_Shut_NoGap, kit_r xa_Unlike ty_Unlike su_Shut_Shut su_Shut_Unlike, kit_r xa_GapLeft ty_GapLeft su_Shut_Shut su_Shut_GapLeft, kit_r xa_NoRub ty_NoRub su_Shut_Shut su_Shut_NoRub, ⟨xa_WrongKind, xb_WrongKind, xc_WrongKind, sb_WrongKind, xd_WrongKind, xe_WrongKind, xf_WrongKind, xg_WrongKind⟩, PySem.W.exm_ref sb_GapError hd_GapError ty_GapError su_WrongKind_GapError, kit_t (by decide +kernel) sv_WrongKind, kit_r xa_GapError ty_GapError su_WrongKind_WrongKind su_WrongKind_GapError, kit_r xa_NoPlace ty_NoPlace su_WrongKind_WrongKind su_WrongKind_NoPlace, kit_r xa_NoText ty_NoText su_WrongKind_WrongKind su_WrongKind_NoText, kit_r xa_NoMaking ty_NoMaking su_WrongKind_WrongKind su_WrongKind_NoMaking, kit_r xa_NoRow ty_NoRow su_WrongKind_WrongKind su_WrongKind_NoRow, kit_r xa_TooGreat ty_TooGreat su_WrongKind_WrongKind su_WrongKind_TooGreat, kit_r xa_TooLong ty_TooLong su_WrongKind_WrongKind su_WrongKind_TooLong, kit_r xa_TooLarge ty_TooLarge su_WrongKind_WrongKind su_WrongKind_TooLarge, kit_r xa_NoName ty_NoName su_WrongKind_WrongKind su_WrongKind_NoName, kit_r xa_OtherStage ty_OtherStage su_WrongKind_WrongKind su_WrongKind_OtherStage, kit_r xa_Shut ty_Shut su_WrongKind_WrongKind su_WrongKind_Shut, kit_r xa_WrongKind ty_WrongKind su_WrongKind_WrongKind su_WrongKind_WrongKind, kit_r xa_NoPiece ty_NoPiece su_WrongKind_WrongKind su_WrongKind_NoPiece, kit_r xa_NoGap ty_NoGap su_WrongKind_WrongKind su_WrongKind_NoGap, kit_r xa_Unlike ty_Unlike su_WrongKind_WrongKind su_WrongKind_Unlike, kit_r xa_GapLeft ty_GapLeft su_WrongKind_WrongKind su_WrongKind_GapLeft, kit_r xa_NoRub ty_NoRub su_WrongKind_WrongKind su_WrongKind_NoRub, ⟨xa_NoPiece, xb_NoPiece, xc_NoPiece, sb_NoPiece, xd_NoPiece, xe_NoPiece, xf_NoPiece, xg_NoPiece⟩, PySem.W.exm_ref sb_GapError hd_GapError ty_GapError su_NoPiece_GapError, kit_t (by decide +kernel) sv_NoPiece, kit_r xa_GapError ty_GapError su_NoPiece_NoPiece su_NoPiece_GapError, kit_r xa_NoPlace ty_NoPlace su_NoPiece_NoPiece su_NoPiece_NoPlace, kit_r xa_NoText ty_NoText su_NoPiece_NoPiece su_NoPiece_NoText, kit_r xa_NoMaking ty_NoMaking su_NoPiece_NoPiece su_NoPiece_NoMaking, kit_r xa_NoRow ty_NoRow su_NoPiece_NoPiece su_NoPiece_NoRow, kit_r xa_TooGreat ty_TooGreat su_NoPiece_NoPiece su_NoPiece_TooGreat, kit_r xa_TooLong ty_TooLong su_NoPiece_NoPiece su_NoPiece_TooLong, kit_r xa_TooLarge ty_TooLarge su_NoPiece_NoPiece su_NoPiece_TooLarge, kit_r xa_NoName ty_NoName su_NoPiece_NoPiece su_NoPiece_NoName, kit_r xa_OtherStage ty_OtherStage su_NoPiece_NoPiece su_NoPiece_OtherStage, kit_r xa_Shut ty_Shut su_NoPiece_NoPiece su_NoPiece_Shut, kit_r xa_WrongKind ty_WrongKind su_NoPiece_NoPiece su_NoPiece_WrongKind, kit_r xa_NoPiece ty_NoPiece su_NoPiece_NoPiece su_NoPiece_NoPiece, kit_r xa_NoGap ty_NoGap su_NoPiece_NoPiece su_NoPiece_NoGap, kit_r xa_Unlike ty_Unlike su_NoPiece_NoPiece su_NoPiece_Unlike, kit_r xa_GapLeft ty_GapLeft su_NoPiece_NoPiece su_NoPiece_GapLeft, kit_r xa_NoRub ty_NoRub su_NoPiece_NoPiece su_NoPiece_NoRub, ⟨xa_NoGap, xb_NoGap, xc_NoGap, sb_NoGap, xd_NoGap, xe_NoGap, xf_NoGap, xg_NoGap⟩, PySem.W.exm_ref sb_GapError hd_GapError ty_GapError su_NoGap_GapError, kit_t (by decide +kernel) sv_NoGap, kit_r xa_GapError ty_GapError su_NoGap_NoGap su_NoGap_GapError, kit_r xa_NoPlace ty_NoPlace su_NoGap_NoGap su_NoGap_NoPlace, kit_r xa_NoText ty_NoText su_NoGap_NoGap su_NoGap_NoText, kit_r xa_NoMaking ty_NoMaking su_NoGap_NoGap su_NoGap_NoMaking, kit_r xa_NoRow ty_NoRow su_NoGap_NoGap su_NoGap_NoRow, kit_r xa_TooGreat ty_TooGreat su_NoGap_NoGap su_NoGap_TooGreat, kit_r xa_TooLong ty_TooLong su_NoGap_NoGap su_NoGap_TooLong, kit_r xa_TooLarge ty_TooLarge su_NoGap_NoGap su_NoGap_TooLarge, kit_r xa_NoName ty_NoName su_NoGap_NoGap su_NoGap_NoName, kit_r xa_OtherStage ty_OtherStage su_NoGap_NoGap su_NoGap_OtherStage, kit_r xa_Shut ty_Shut su_NoGap_NoGap su_NoGap_Shut, kit_r xa_WrongKind ty_WrongKind su_NoGap_NoGap su_NoGap_WrongKind, kit_r xa_NoPiece ty_NoPiece su_NoGap_NoGap su_NoGap_NoPiece, kit_r xa_NoGap ty_NoGap su_NoGap_NoGap su_NoGap_NoGap, kit_r xa_Unlike ty_Unlike su_NoGap_NoGap su_NoGap_Unlike, kit_r xa_GapLeft ty_GapLeft su_NoGap_NoGap su_NoGap_GapLeft, kit_r xa_NoRub ty_NoRub su_NoGap_NoGap su_NoGap_NoRub, ⟨xa_Unlike, xb_Unlike, xc_Unlike, sb_Unlike, xd_Unlike, xe_Unlike, xf_Unlike, xg_Unlike⟩, PySem.W.exm_ref sb_GapError hd_GapError ty_GapError su_Unlike_GapError, kit_t (by decide +kernel) sv_Unlike, kit_r xa_GapError ty_GapError su_Unlike_Unlike su_Unlike_GapError, kit_r xa_NoPlace ty_NoPlace su_Unlike_Unlike su_Unlike_NoPlace, kit_r xa_NoText ty_NoText su_Unlike_Unlike su_Unlike_NoText, kit_r xa_NoMaking ty_NoMaking su_Unlike_Unlike su_Unlike_NoMaking, kit_r xa_NoRow ty_NoRow su_Unlike_Unlike su_Unlike_NoRow, kit_r xa_TooGreat ty_TooGreat su_Unlike_Unlike su_Unlike_TooGreat, kit_r xa_TooLong ty_TooLong su_Unlike_Unlike su_Unlike_TooLong, kit_r xa_TooLarge ty_TooLarge su_Unlike_Unlike su_Unlike_TooLarge, kit_r xa_NoName ty_NoName su_Unlike_Unlike su_Unlike_NoName, kit_r xa_OtherStage ty_OtherStage su_Unlike_Unlike su_Unlike_OtherStage, kit_r xa_Shut ty_Shut su_Unlike_Unlike su_Unlike_Shut, kit_r xa_WrongKind ty_WrongKind su_Unlike_Unlike su_Unlike_WrongKind, kit_r xa_NoPiece ty_NoPiece su_Unlike_Unlike su_Unlike_NoPiece, kit_r xa_NoGap ty_NoGap su_Unlike_Unlike su_Unlike_NoGap, kit_r xa_Unlike ty_Unlike su_Unlike_Unlike su_Unlike_Unlike, kit_r xa_GapLeft ty_GapLeft su_Unlike_Unlike su_Unlike_GapLeft, kit_r xa_NoRub ty_NoRub su_Unlike_Unlike su_Unlike_NoRub, ⟨xa_GapLeft, xb_GapLeft, xc_GapLeft, sb_GapLeft, xd_GapLeft, xe_GapLeft, xf_GapLeft, xg_GapLeft⟩, PySem.W.exm_ref sb_GapError hd_GapError ty_GapError su_GapLeft_GapError, kit_t (by decide +kernel) sv_GapLeft, kit_r xa_GapError ty_GapError su_GapLeft_GapLeft su_GapLeft_GapError, kit_r xa_NoPlace ty_NoPlace su_GapLeft_GapLeft su_GapLeft_NoPlace, kit_r xa_NoText ty_NoText su_GapLeft_GapLeft su_GapLeft_NoText, kit_r xa_NoMaking ty_NoMaking su_GapLeft_GapLeft su_GapLeft_NoMaking, kit_r xa_NoRow ty_NoRow su_GapLeft_GapLeft su_GapLeft_NoRow, kit_r xa_TooGreat ty_TooGreat su_GapLeft_GapLeft su_GapLeft_TooGreat, kit_r xa_TooLong ty_TooLong su_GapLeft_GapLeft su_GapLeft_TooLong, kit_r xa_TooLarge ty_TooLarge su_GapLeft_GapLeft su_GapLeft_TooLarge, kit_r xa_NoName ty_NoName su_GapLeft_GapLeft su_GapLeft_NoName, kit_r xa_OtherStage ty_OtherStage su_GapLeft_GapLeft su_GapLeft_OtherStage, kit_r xa_Shut ty_Shut su_GapLeft_GapLeft su_GapLeft_Shut, kit_r xa_WrongKind ty_WrongKind su_GapLeft_GapLeft su_GapLeft_WrongKind, kit_r xa_NoPiece ty_NoPiece su_GapLeft_GapLeft su_GapLeft_NoPiece, kit_r xa_NoGap ty_NoGap su_GapLeft_GapLeft su_GapLeft_NoGap, kit_r xa_Unlike ty_Unlike su_GapLeft_GapLeft su_GapLeft_Unlike, kit_r xa_GapLeft ty_GapLeft su_GapLeft_GapLeft su_GapLeft_GapLeft, kit_r xa_NoRub ty_NoRub su_GapLeft_GapLeft su_GapLeft_NoRub, ⟨xa_NoRub, xb_NoRub, xc_NoRub, sb_NoRub, xd_NoRub, xe_NoRub, xf_NoRub, xg_NoRub⟩, PySem.W.exm_ref sb_GapError hd_GapError ty_GapError su_NoRub_GapError, kit_t (by decide +kernel) sv_NoRub, kit_r xa_GapError ty_GapError su_NoRub_NoRub su_NoRub_GapError, kit_r xa_NoPlace ty_NoPlace su_NoRub_NoRub su_NoRub_NoPlace, kit_r xa_NoText ty_NoText su_NoRub_NoRub su_NoRub_NoText, kit_r xa_NoMaking ty_NoMaking su_NoRub_NoRub su_NoRub_NoMaking, kit_r xa_NoRow ty_NoRow su_NoRub_NoRub su_NoRub_NoRow, kit_r xa_TooGreat ty_TooGreat su_NoRub_NoRub su_NoRub_TooGreat, kit_r xa_TooLong ty_TooLong su_NoRub_NoRub su_NoRub_TooLong, kit_r xa_TooLarge ty_TooLarge su_NoRub_NoRub su_NoRub_TooLarge, kit_r xa_NoName ty_NoName su_NoRub_NoRub su_NoRub_NoName, kit_r xa_OtherStage ty_OtherStage su_NoRub_NoRub su_NoRub_OtherStage, kit_r xa_Shut ty_Shut su_NoRub_NoRub su_NoRub_Shut, kit_r xa_WrongKind ty_WrongKind su_NoRub_NoRub su_NoRub_WrongKind, kit_r xa_NoPiece ty_NoPiece su_NoRub_NoRub su_NoRub_NoPiece, kit_r xa_NoGap ty_NoGap su_NoRub_NoRub su_NoRub_NoGap, kit_r xa_Unlike ty_Unlike su_NoRub_NoRub su_NoRub_Unlike, kit_r xa_GapLeft ty_GapLeft su_NoRub_NoRub su_NoRub_GapLeft, kit_r xa_NoRub ty_NoRub su_NoRub_NoRub su_NoRub_NoRub⟩
  exact ⟨PySem.W.fnOf "law" "law" (defArgs s_law) (defBody s_law) (defScope s_law) .none kV_law dc_law pm_law an_law cd_law ct_law, fun s v => .of_eq rfl, fun base _ _ => ok_law T _ _ (fun_mk (st := s_law) l_law c_law k_law)⟩
theorem law_pre : ∀ (ns : List Int) (Q : Sl → List Sl → Prop) (E : Value → XF → List Sl → Prop), ns.length ≤ 63 → (∀ as, Q (.dat (.bl true)) as) → sp_law [.dat (.lst (ns.map D.int))] Q E := fun ns Q E h q => ⟨ns, rfl, h, q⟩
end
end K18
open PySem PySem.W PyProof.Rows
set_option maxHeartbeats 0 in
theorem PySem.Challenge.cw_gapwright_k18_errors_as_told_holds : PySem.Challenge.rw_gapwright_k18_errors_as_told.Holds := by
  w_on; o_law; k_head; (case hw => w_witness2)
  k_fill
  refine L2.walk_ofK (l := PySem.Challenge.rw_gapwright_k18_errors_as_told) (n := 63) (k := 30) (x := "_law_script") (CX := L2.CX0) (sp := fun K => G.spOf K K18.sp_law) rfl (by decide) rfl ⟨rfl, by decide, by decide⟩ (fun w h Y => PySem.W.kIn_of Y) ?F (fun K H a ns hl hO hS => G.law_start K18.law_pre hl hO hS) (fun _ _ _ _ h => h)
  case F =>
    intro w mg fa h KX G hmg
    refine' K18.all_mk KX G hmg ?a_law_mixed ?l_law_mixed ?c_law_mixed ?k_law_mixed ?a_law_pot ?l_law_pot ?c_law_pot ?k_law_pot ?a_law_draw ?l_law_draw ?c_law_draw ?k_law_draw ?a_law_marks ?l_law_marks ?c_law_marks ?k_law_marks ?a_law_errors ?l_law_errors ?c_law_errors ?k_law_errors ?a_law_caught ?l_law_caught ?c_law_caught ?k_law_caught ?a_law_good ?l_law_good ?c_law_good ?k_law_good ?a_law ?l_law ?c_law ?k_law ?aX_GapError ?xa_GapError ?ty_GapError ?sb_GapError ?hd_GapError ?aX_NoPlace ?xa_NoPlace ?ty_NoPlace ?aX_NoText ?xa_NoText ?ty_NoText ?aX_NoMaking ?xa_NoMaking ?ty_NoMaking ?aX_NoRow ?xa_NoRow ?ty_NoRow ?aX_TooGreat ?xa_TooGreat ?ty_TooGreat ?aX_TooLong ?xa_TooLong ?ty_TooLong ?aX_TooLarge ?xa_TooLarge ?ty_TooLarge ?aX_NoName ?xa_NoName ?ty_NoName ?aX_OtherStage ?xa_OtherStage ?ty_OtherStage ?aX_Shut ?xa_Shut ?ty_Shut ?aX_WrongKind ?xa_WrongKind ?ty_WrongKind ?aX_NoPiece ?xa_NoPiece ?ty_NoPiece ?aX_NoGap ?xa_NoGap ?ty_NoGap ?aX_Unlike ?xa_Unlike ?ty_Unlike ?aX_GapLeft ?xa_GapLeft ?ty_GapLeft ?aX_NoRub ?xa_NoRub ?ty_NoRub ?ox_NoName ?hd_NoName ?fp_NoName ?fs_NoName ?a_NoName___init__ ?t_NoName___init__ ?l_NoName___init__ ?c_NoName___init__ ?k_NoName___init__ ?ox_OtherStage ?hd_OtherStage ?fp_OtherStage ?fs_OtherStage ?a_OtherStage___init__ ?t_OtherStage___init__ ?l_OtherStage___init__ ?c_OtherStage___init__ ?k_OtherStage___init__ ?ox_Shut ?hd_Shut ?fp_Shut ?fs_Shut ?a_Shut___init__ ?t_Shut___init__ ?l_Shut___init__ ?c_Shut___init__ ?k_Shut___init__ ?ox_WrongKind ?hd_WrongKind ?fp_WrongKind ?fs_WrongKind ?a_WrongKind___init__ ?t_WrongKind___init__ ?l_WrongKind___init__ ?c_WrongKind___init__ ?k_WrongKind___init__ ?ox_NoPiece ?hd_NoPiece ?fp_NoPiece ?fs_NoPiece ?a_NoPiece___init__ ?t_NoPiece___init__ ?l_NoPiece___init__ ?c_NoPiece___init__ ?k_NoPiece___init__ ?ox_NoGap ?hd_NoGap ?fp_NoGap ?fs_NoGap ?a_NoGap___init__ ?t_NoGap___init__ ?l_NoGap___init__ ?c_NoGap___init__ ?k_NoGap___init__ ?ox_Unlike ?hd_Unlike ?fp_Unlike ?fs_Unlike ?a_Unlike___init__ ?t_Unlike___init__ ?l_Unlike___init__ ?c_Unlike___init__ ?k_Unlike___init__ ?ox_GapLeft ?hd_GapLeft ?fp_GapLeft ?fs_GapLeft ?a_GapLeft___init__ ?t_GapLeft___init__ ?l_GapLeft___init__ ?c_GapLeft___init__ ?k_GapLeft___init__ ?ox_NoRub ?hd_NoRub ?fp_NoRub ?fs_NoRub ?a_NoRub___init__ ?t_NoRub___init__ ?l_NoRub___init__ ?c_NoRub___init__ ?k_NoRub___init__ ?ox_TooGreat ?hd_TooGreat ?fp_TooGreat ?a_TooGreat___init__ ?t_TooGreat___init__ ?l_TooGreat___init__ ?c_TooGreat___init__ ?k_TooGreat___init__ ?ox_TooLong ?hd_TooLong ?fp_TooLong ?a_TooLong___init__ ?t_TooLong___init__ ?l_TooLong___init__ ?c_TooLong___init__ ?k_TooLong___init__ ?ox_TooLarge ?hd_TooLarge ?fp_TooLarge ?a_TooLarge___init__ ?t_TooLarge___init__ ?l_TooLarge___init__ ?c_TooLarge___init__ ?k_TooLarge___init__ ?r1_GapError ?r2_GapError ?vi_GapError ?ex_NoPlace ?kc_NoPlace ?sb_NoPlace ?xb_NoPlace ?xc_NoPlace ?xd_NoPlace ?xe_NoPlace ?xf_NoPlace ?xg_NoPlace ?sv_NoPlace ?su_NoPlace_GapError ?su_NoPlace_NoPlace ?su_NoPlace_NoText ?su_NoPlace_NoMaking ?su_NoPlace_NoRow ?su_NoPlace_TooGreat ?su_NoPlace_TooLong ?su_NoPlace_TooLarge ?su_NoPlace_NoName ?su_NoPlace_OtherStage ?su_NoPlace_Shut ?su_NoPlace_WrongKind ?su_NoPlace_NoPiece ?su_NoPlace_NoGap ?su_NoPlace_Unlike ?su_NoPlace_GapLeft ?su_NoPlace_NoRub ?ex_NoText ?kc_NoText ?sb_NoText ?xb_NoText ?xc_NoText ?xd_NoText ?xe_NoText ?xf_NoText ?xg_NoText ?sv_NoText ?su_NoText_GapError ?su_NoText_NoPlace ?su_NoText_NoText ?su_NoText_NoMaking ?su_NoText_NoRow ?su_NoText_TooGreat ?su_NoText_TooLong ?su_NoText_TooLarge ?su_NoText_NoName ?su_NoText_OtherStage ?su_NoText_Shut ?su_NoText_WrongKind ?su_NoText_NoPiece ?su_NoText_NoGap ?su_NoText_Unlike ?su_NoText_GapLeft ?su_NoText_NoRub ?ex_NoMaking ?kc_NoMaking ?sb_NoMaking ?xb_NoMaking ?xc_NoMaking ?xd_NoMaking ?xe_NoMaking ?xf_NoMaking ?xg_NoMaking ?sv_NoMaking ?su_NoMaking_GapError ?su_NoMaking_NoPlace ?su_NoMaking_NoText ?su_NoMaking_NoMaking ?su_NoMaking_NoRow ?su_NoMaking_TooGreat ?su_NoMaking_TooLong ?su_NoMaking_TooLarge ?su_NoMaking_NoName ?su_NoMaking_OtherStage ?su_NoMaking_Shut ?su_NoMaking_WrongKind ?su_NoMaking_NoPiece ?su_NoMaking_NoGap ?su_NoMaking_Unlike ?su_NoMaking_GapLeft ?su_NoMaking_NoRub ?ex_NoRow ?kc_NoRow ?sb_NoRow ?xb_NoRow ?xc_NoRow ?xd_NoRow ?xe_NoRow ?xf_NoRow ?xg_NoRow ?sv_NoRow ?su_NoRow_GapError ?su_NoRow_NoPlace ?su_NoRow_NoText ?su_NoRow_NoMaking ?su_NoRow_NoRow ?su_NoRow_TooGreat ?su_NoRow_TooLong ?su_NoRow_TooLarge ?su_NoRow_NoName ?su_NoRow_OtherStage ?su_NoRow_Shut ?su_NoRow_WrongKind ?su_NoRow_NoPiece ?su_NoRow_NoGap ?su_NoRow_Unlike ?su_NoRow_GapLeft ?su_NoRow_NoRub ?kc_TooGreat ?sb_TooGreat ?xb_TooGreat ?xc_TooGreat ?xd_TooGreat ?xe_TooGreat ?xf_TooGreat ?xg_TooGreat ?sv_TooGreat ?su_TooGreat_GapError ?su_TooGreat_NoPlace ?su_TooGreat_NoText ?su_TooGreat_NoMaking ?su_TooGreat_NoRow ?su_TooGreat_TooGreat ?su_TooGreat_TooLong ?su_TooGreat_TooLarge ?su_TooGreat_NoName ?su_TooGreat_OtherStage ?su_TooGreat_Shut ?su_TooGreat_WrongKind ?su_TooGreat_NoPiece ?su_TooGreat_NoGap ?su_TooGreat_Unlike ?su_TooGreat_GapLeft ?su_TooGreat_NoRub ?kc_TooLong ?sb_TooLong ?xb_TooLong ?xc_TooLong ?xd_TooLong ?xe_TooLong ?xf_TooLong ?xg_TooLong ?sv_TooLong ?su_TooLong_GapError ?su_TooLong_NoPlace ?su_TooLong_NoText ?su_TooLong_NoMaking ?su_TooLong_NoRow ?su_TooLong_TooGreat ?su_TooLong_TooLong ?su_TooLong_TooLarge ?su_TooLong_NoName ?su_TooLong_OtherStage ?su_TooLong_Shut ?su_TooLong_WrongKind ?su_TooLong_NoPiece ?su_TooLong_NoGap ?su_TooLong_Unlike ?su_TooLong_GapLeft ?su_TooLong_NoRub ?kc_TooLarge ?sb_TooLarge ?xb_TooLarge ?xc_TooLarge ?xd_TooLarge ?xe_TooLarge ?xf_TooLarge ?xg_TooLarge ?sv_TooLarge ?su_TooLarge_GapError ?su_TooLarge_NoPlace ?su_TooLarge_NoText ?su_TooLarge_NoMaking ?su_TooLarge_NoRow ?su_TooLarge_TooGreat ?su_TooLarge_TooLong ?su_TooLarge_TooLarge ?su_TooLarge_NoName ?su_TooLarge_OtherStage ?su_TooLarge_Shut ?su_TooLarge_WrongKind ?su_TooLarge_NoPiece ?su_TooLarge_NoGap ?su_TooLarge_Unlike ?su_TooLarge_GapLeft ?su_TooLarge_NoRub ?kc_NoName ?sb_NoName ?xb_NoName ?xc_NoName ?xd_NoName ?xe_NoName ?xf_NoName ?xg_NoName ?sv_NoName ?su_NoName_GapError ?su_NoName_NoPlace ?su_NoName_NoText ?su_NoName_NoMaking ?su_NoName_NoRow ?su_NoName_TooGreat ?su_NoName_TooLong ?su_NoName_TooLarge ?su_NoName_NoName ?su_NoName_OtherStage ?su_NoName_Shut ?su_NoName_WrongKind ?su_NoName_NoPiece ?su_NoName_NoGap ?su_NoName_Unlike ?su_NoName_GapLeft ?su_NoName_NoRub ?kc_OtherStage ?sb_OtherStage ?xb_OtherStage ?xc_OtherStage ?xd_OtherStage ?xe_OtherStage ?xf_OtherStage ?xg_OtherStage ?sv_OtherStage ?su_OtherStage_GapError ?su_OtherStage_NoPlace ?su_OtherStage_NoText ?su_OtherStage_NoMaking ?su_OtherStage_NoRow ?su_OtherStage_TooGreat ?su_OtherStage_TooLong ?su_OtherStage_TooLarge ?su_OtherStage_NoName ?su_OtherStage_OtherStage ?su_OtherStage_Shut ?su_OtherStage_WrongKind ?su_OtherStage_NoPiece ?su_OtherStage_NoGap ?su_OtherStage_Unlike ?su_OtherStage_GapLeft ?su_OtherStage_NoRub ?kc_Shut ?sb_Shut ?xb_Shut ?xc_Shut ?xd_Shut ?xe_Shut ?xf_Shut ?xg_Shut ?sv_Shut ?su_Shut_GapError ?su_Shut_NoPlace ?su_Shut_NoText ?su_Shut_NoMaking ?su_Shut_NoRow ?su_Shut_TooGreat ?su_Shut_TooLong ?su_Shut_TooLarge ?su_Shut_NoName ?su_Shut_OtherStage ?su_Shut_Shut ?su_Shut_WrongKind ?su_Shut_NoPiece ?su_Shut_NoGap ?su_Shut_Unlike ?su_Shut_GapLeft ?su_Shut_NoRub ?kc_WrongKind ?sb_WrongKind ?xb_WrongKind ?xc_WrongKind ?xd_WrongKind ?xe_WrongKind ?xf_WrongKind ?xg_WrongKind ?sv_WrongKind ?su_WrongKind_GapError ?su_WrongKind_NoPlace ?su_WrongKind_NoText ?su_WrongKind_NoMaking ?su_WrongKind_NoRow ?su_WrongKind_TooGreat ?su_WrongKind_TooLong ?su_WrongKind_TooLarge ?su_WrongKind_NoName ?su_WrongKind_OtherStage ?su_WrongKind_Shut ?su_WrongKind_WrongKind ?su_WrongKind_NoPiece ?su_WrongKind_NoGap ?su_WrongKind_Unlike ?su_WrongKind_GapLeft ?su_WrongKind_NoRub ?kc_NoPiece ?sb_NoPiece ?xb_NoPiece ?xc_NoPiece ?xd_NoPiece ?xe_NoPiece ?xf_NoPiece ?xg_NoPiece ?sv_NoPiece ?su_NoPiece_GapError ?su_NoPiece_NoPlace ?su_NoPiece_NoText ?su_NoPiece_NoMaking ?su_NoPiece_NoRow ?su_NoPiece_TooGreat ?su_NoPiece_TooLong ?su_NoPiece_TooLarge ?su_NoPiece_NoName ?su_NoPiece_OtherStage ?su_NoPiece_Shut ?su_NoPiece_WrongKind ?su_NoPiece_NoPiece ?su_NoPiece_NoGap ?su_NoPiece_Unlike ?su_NoPiece_GapLeft ?su_NoPiece_NoRub ?kc_NoGap ?sb_NoGap ?xb_NoGap ?xc_NoGap ?xd_NoGap ?xe_NoGap ?xf_NoGap ?xg_NoGap ?sv_NoGap ?su_NoGap_GapError ?su_NoGap_NoPlace ?su_NoGap_NoText ?su_NoGap_NoMaking ?su_NoGap_NoRow ?su_NoGap_TooGreat ?su_NoGap_TooLong ?su_NoGap_TooLarge ?su_NoGap_NoName ?su_NoGap_OtherStage ?su_NoGap_Shut ?su_NoGap_WrongKind ?su_NoGap_NoPiece ?su_NoGap_NoGap ?su_NoGap_Unlike ?su_NoGap_GapLeft ?su_NoGap_NoRub ?kc_Unlike ?sb_Unlike ?xb_Unlike ?xc_Unlike ?xd_Unlike ?xe_Unlike ?xf_Unlike ?xg_Unlike ?sv_Unlike ?su_Unlike_GapError ?su_Unlike_NoPlace ?su_Unlike_NoText ?su_Unlike_NoMaking ?su_Unlike_NoRow ?su_Unlike_TooGreat ?su_Unlike_TooLong ?su_Unlike_TooLarge ?su_Unlike_NoName ?su_Unlike_OtherStage ?su_Unlike_Shut ?su_Unlike_WrongKind ?su_Unlike_NoPiece ?su_Unlike_NoGap ?su_Unlike_Unlike ?su_Unlike_GapLeft ?su_Unlike_NoRub ?kc_GapLeft ?sb_GapLeft ?xb_GapLeft ?xc_GapLeft ?xd_GapLeft ?xe_GapLeft ?xf_GapLeft ?xg_GapLeft ?sv_GapLeft ?su_GapLeft_GapError ?su_GapLeft_NoPlace ?su_GapLeft_NoText ?su_GapLeft_NoMaking ?su_GapLeft_NoRow ?su_GapLeft_TooGreat ?su_GapLeft_TooLong ?su_GapLeft_TooLarge ?su_GapLeft_NoName ?su_GapLeft_OtherStage ?su_GapLeft_Shut ?su_GapLeft_WrongKind ?su_GapLeft_NoPiece ?su_GapLeft_NoGap ?su_GapLeft_Unlike ?su_GapLeft_GapLeft ?su_GapLeft_NoRub ?kc_NoRub ?sb_NoRub ?xb_NoRub ?xc_NoRub ?xd_NoRub ?xe_NoRub ?xf_NoRub ?xg_NoRub ?sv_NoRub ?su_NoRub_GapError ?su_NoRub_NoPlace ?su_NoRub_NoText ?su_NoRub_NoMaking ?su_NoRub_NoRow ?su_NoRub_TooGreat ?su_NoRub_TooLong ?su_NoRub_TooLarge ?su_NoRub_NoName ?su_NoRub_OtherStage ?su_NoRub_Shut ?su_NoRub_WrongKind ?su_NoRub_NoPiece ?su_NoRub_NoGap ?su_NoRub_Unlike ?su_NoRub_GapLeft ?su_NoRub_NoRub ?z_ValueError ?z_all ?z_enumerate ?z_isinstance ?z_len ?z_list ?z_max ?z_min ?z_range ?z_tuple
    (case a_law_mixed => k_is); (case l_law_mixed => k_is); (case c_law_mixed => k_is); (case k_law_mixed => k_is); (case a_law_pot => k_is); (case l_law_pot => k_is); (case c_law_pot => k_is); (case k_law_pot => k_is); (case a_law_draw => k_is); (case l_law_draw => k_is); (case c_law_draw => k_is); (case k_law_draw => k_is); (case a_law_marks => k_is); (case l_law_marks => k_is); (case c_law_marks => k_is); (case k_law_marks => k_is); (case a_law_errors => k_is); (case l_law_errors => k_is); (case c_law_errors => k_is); (case k_law_errors => k_is); (case a_law_caught => k_is); (case l_law_caught => k_is); (case c_law_caught => k_is); (case k_law_caught => k_is); (case a_law_good => k_is); (case l_law_good => k_is); (case c_law_good => k_is); (case k_law_good => k_is); (case a_law => k_is); (case l_law => k_is); (case c_law => k_is); (case k_law => k_is); (case aX_GapError => k_is); (case xa_GapError => k_is); (case ty_GapError => k_is); (case sb_GapError => k_is); (case hd_GapError => k_is); (case aX_NoPlace => k_is); (case xa_NoPlace => k_is); (case ty_NoPlace => k_is); (case aX_NoText => k_is); (case xa_NoText => k_is); (case ty_NoText => k_is); (case aX_NoMaking => k_is); (case xa_NoMaking => k_is); (case ty_NoMaking => k_is); (case aX_NoRow => k_is); (case xa_NoRow => k_is); (case ty_NoRow => k_is); (case aX_TooGreat => k_is); (case xa_TooGreat => k_is); (case ty_TooGreat => k_is); (case aX_TooLong => k_is); (case xa_TooLong => k_is); (case ty_TooLong => k_is); (case aX_TooLarge => k_is); (case xa_TooLarge => k_is); (case ty_TooLarge => k_is); (case aX_NoName => k_is); (case xa_NoName => k_is); (case ty_NoName => k_is); (case aX_OtherStage => k_is); (case xa_OtherStage => k_is); (case ty_OtherStage => k_is); (case aX_Shut => k_is); (case xa_Shut => k_is); (case ty_Shut => k_is); (case aX_WrongKind => k_is); (case xa_WrongKind => k_is); (case ty_WrongKind => k_is); (case aX_NoPiece => k_is); (case xa_NoPiece => k_is); (case ty_NoPiece => k_is); (case aX_NoGap => k_is); (case xa_NoGap => k_is); (case ty_NoGap => k_is); (case aX_Unlike => k_is); (case xa_Unlike => k_is); (case ty_Unlike => k_is); (case aX_GapLeft => k_is); (case xa_GapLeft => k_is); (case ty_GapLeft => k_is); (case aX_NoRub => k_is); (case xa_NoRub => k_is); (case ty_NoRub => k_is); (case ox_NoName => (refine' _root_.G.oex_of ?ox1 ?ox2 ?ox3 ?ox4 ?ox5 ?ox6; (case ox1 => k_is); (case ox2 => rfl); (case ox3 => k_is); (case ox4 => k_is); (case ox5 => k_is); (case ox6 => k_is))); (case hd_NoName => k_is); (case fp_NoName => k_is); (case fs_NoName => k_is); (case a_NoName___init__ => k_is); (case t_NoName___init__ => k_is); (case l_NoName___init__ => k_is); (case c_NoName___init__ => k_is); (case k_NoName___init__ => k_is); (case ox_OtherStage => (refine' _root_.G.oex_of ?ox1 ?ox2 ?ox3 ?ox4 ?ox5 ?ox6; (case ox1 => k_is); (case ox2 => rfl); (case ox3 => k_is); (case ox4 => k_is); (case ox5 => k_is); (case ox6 => k_is))); (case hd_OtherStage => k_is); (case fp_OtherStage => k_is); (case fs_OtherStage => k_is); (case a_OtherStage___init__ => k_is); (case t_OtherStage___init__ => k_is); (case l_OtherStage___init__ => k_is); (case c_OtherStage___init__ => k_is); (case k_OtherStage___init__ => k_is); (case ox_Shut => (refine' _root_.G.oex_of ?ox1 ?ox2 ?ox3 ?ox4 ?ox5 ?ox6; (case ox1 => k_is); (case ox2 => rfl); (case ox3 => k_is); (case ox4 => k_is); (case ox5 => k_is); (case ox6 => k_is))); (case hd_Shut => k_is); (case fp_Shut => k_is); (case fs_Shut => k_is); (case a_Shut___init__ => k_is); (case t_Shut___init__ => k_is); (case l_Shut___init__ => k_is); (case c_Shut___init__ => k_is); (case k_Shut___init__ => k_is); (case ox_WrongKind => (refine' _root_.G.oex_of ?ox1 ?ox2 ?ox3 ?ox4 ?ox5 ?ox6; (case ox1 => k_is); (case ox2 => rfl); (case ox3 => k_is); (case ox4 => k_is); (case ox5 => k_is); (case ox6 => k_is))); (case hd_WrongKind => k_is); (case fp_WrongKind => k_is); (case fs_WrongKind => k_is); (case a_WrongKind___init__ => k_is); (case t_WrongKind___init__ => k_is); (case l_WrongKind___init__ => k_is); (case c_WrongKind___init__ => k_is); (case k_WrongKind___init__ => k_is); (case ox_NoPiece => (refine' _root_.G.oex_of ?ox1 ?ox2 ?ox3 ?ox4 ?ox5 ?ox6; (case ox1 => k_is); (case ox2 => rfl); (case ox3 => k_is); (case ox4 => k_is); (case ox5 => k_is); (case ox6 => k_is))); (case hd_NoPiece => k_is); (case fp_NoPiece => k_is); (case fs_NoPiece => k_is); (case a_NoPiece___init__ => k_is); (case t_NoPiece___init__ => k_is); (case l_NoPiece___init__ => k_is); (case c_NoPiece___init__ => k_is); (case k_NoPiece___init__ => k_is); (case ox_NoGap => (refine' _root_.G.oex_of ?ox1 ?ox2 ?ox3 ?ox4 ?ox5 ?ox6; (case ox1 => k_is); (case ox2 => rfl); (case ox3 => k_is); (case ox4 => k_is); (case ox5 => k_is); (case ox6 => k_is))); (case hd_NoGap => k_is); (case fp_NoGap => k_is); (case fs_NoGap => k_is); (case a_NoGap___init__ => k_is); (case t_NoGap___init__ => k_is); (case l_NoGap___init__ => k_is); (case c_NoGap___init__ => k_is); (case k_NoGap___init__ => k_is); (case ox_Unlike => (refine' _root_.G.oex_of ?ox1 ?ox2 ?ox3 ?ox4 ?ox5 ?ox6; (case ox1 => k_is); (case ox2 => rfl); (case ox3 => k_is); (case ox4 => k_is); (case ox5 => k_is); (case ox6 => k_is))); (case hd_Unlike => k_is); (case fp_Unlike => k_is); (case fs_Unlike => k_is); (case a_Unlike___init__ => k_is); (case t_Unlike___init__ => k_is); (case l_Unlike___init__ => k_is); (case c_Unlike___init__ => k_is); (case k_Unlike___init__ => k_is); (case ox_GapLeft => (refine' _root_.G.oex_of ?ox1 ?ox2 ?ox3 ?ox4 ?ox5 ?ox6; (case ox1 => k_is); (case ox2 => rfl); (case ox3 => k_is); (case ox4 => k_is); (case ox5 => k_is); (case ox6 => k_is))); (case hd_GapLeft => k_is); (case fp_GapLeft => k_is); (case fs_GapLeft => k_is); (case a_GapLeft___init__ => k_is); (case t_GapLeft___init__ => k_is); (case l_GapLeft___init__ => k_is); (case c_GapLeft___init__ => k_is); (case k_GapLeft___init__ => k_is); (case ox_NoRub => (refine' _root_.G.oex_of ?ox1 ?ox2 ?ox3 ?ox4 ?ox5 ?ox6; (case ox1 => k_is); (case ox2 => rfl); (case ox3 => k_is); (case ox4 => k_is); (case ox5 => k_is); (case ox6 => k_is))); (case hd_NoRub => k_is); (case fp_NoRub => k_is); (case fs_NoRub => k_is); (case a_NoRub___init__ => k_is); (case t_NoRub___init__ => k_is); (case l_NoRub___init__ => k_is); (case c_NoRub___init__ => k_is); (case k_NoRub___init__ => k_is); (case ox_TooGreat => (refine' _root_.G.oex_of ?ox1 ?ox2 ?ox3 ?ox4 ?ox5 ?ox6; (case ox1 => k_is); (case ox2 => rfl); (case ox3 => k_is); (case ox4 => k_is); (case ox5 => k_is); (case ox6 => k_is))); (case hd_TooGreat => k_is); (case fp_TooGreat => k_is); (case a_TooGreat___init__ => k_is); (case t_TooGreat___init__ => k_is); (case l_TooGreat___init__ => k_is); (case c_TooGreat___init__ => k_is); (case k_TooGreat___init__ => k_is); (case ox_TooLong => (refine' _root_.G.oex_of ?ox1 ?ox2 ?ox3 ?ox4 ?ox5 ?ox6; (case ox1 => k_is); (case ox2 => rfl); (case ox3 => k_is); (case ox4 => k_is); (case ox5 => k_is); (case ox6 => k_is))); (case hd_TooLong => k_is); (case fp_TooLong => k_is); (case a_TooLong___init__ => k_is); (case t_TooLong___init__ => k_is); (case l_TooLong___init__ => k_is); (case c_TooLong___init__ => k_is); (case k_TooLong___init__ => k_is); (case ox_TooLarge => (refine' _root_.G.oex_of ?ox1 ?ox2 ?ox3 ?ox4 ?ox5 ?ox6; (case ox1 => k_is); (case ox2 => rfl); (case ox3 => k_is); (case ox4 => k_is); (case ox5 => k_is); (case ox6 => k_is))); (case hd_TooLarge => k_is); (case fp_TooLarge => k_is); (case a_TooLarge___init__ => k_is); (case t_TooLarge___init__ => k_is); (case l_TooLarge___init__ => k_is); (case c_TooLarge___init__ => k_is); (case k_TooLarge___init__ => k_is); (case r1_GapError => k_is); (case r2_GapError => k_is); (case vi_GapError => k_is); (case ex_NoPlace => k_exc); (case kc_NoPlace => k_is); (case sb_NoPlace => k_is); (case xb_NoPlace => k_is); (case xc_NoPlace => k_is); (case xd_NoPlace => k_is); (case xe_NoPlace => first | rfl | decide +kernel | k_is); (case xf_NoPlace => first | rfl | decide +kernel | k_is); (case xg_NoPlace => k_is); (case sv_NoPlace => k_is); (case su_NoPlace_GapError => k_is); (case su_NoPlace_NoPlace => first | rfl | k_is); (case su_NoPlace_NoText => k_is); (case su_NoPlace_NoMaking => k_is); (case su_NoPlace_NoRow => k_is); (case su_NoPlace_TooGreat => k_is); (case su_NoPlace_TooLong => k_is); (case su_NoPlace_TooLarge => k_is); (case su_NoPlace_NoName => k_is); (case su_NoPlace_OtherStage => k_is); (case su_NoPlace_Shut => k_is); (case su_NoPlace_WrongKind => k_is); (case su_NoPlace_NoPiece => k_is); (case su_NoPlace_NoGap => k_is); (case su_NoPlace_Unlike => k_is); (case su_NoPlace_GapLeft => k_is); (case su_NoPlace_NoRub => k_is); (case ex_NoText => k_exc); (case kc_NoText => k_is); (case sb_NoText => k_is); (case xb_NoText => k_is); (case xc_NoText => k_is); (case xd_NoText => k_is); (case xe_NoText => first | rfl | decide +kernel | k_is); (case xf_NoText => first | rfl | decide +kernel | k_is); (case xg_NoText => k_is); (case sv_NoText => k_is); (case su_NoText_GapError => k_is); (case su_NoText_NoPlace => k_is); (case su_NoText_NoText => first | rfl | k_is); (case su_NoText_NoMaking => k_is); (case su_NoText_NoRow => k_is); (case su_NoText_TooGreat => k_is); (case su_NoText_TooLong => k_is); (case su_NoText_TooLarge => k_is); (case su_NoText_NoName => k_is); (case su_NoText_OtherStage => k_is); (case su_NoText_Shut => k_is); (case su_NoText_WrongKind => k_is); (case su_NoText_NoPiece => k_is); (case su_NoText_NoGap => k_is); (case su_NoText_Unlike => k_is); (case su_NoText_GapLeft => k_is); (case su_NoText_NoRub => k_is); (case ex_NoMaking => k_exc); (case kc_NoMaking => k_is); (case sb_NoMaking => k_is); (case xb_NoMaking => k_is); (case xc_NoMaking => k_is); (case xd_NoMaking => k_is); (case xe_NoMaking => first | rfl | decide +kernel | k_is); (case xf_NoMaking => first | rfl | decide +kernel | k_is); (case xg_NoMaking => k_is); (case sv_NoMaking => k_is); (case su_NoMaking_GapError => k_is); (case su_NoMaking_NoPlace => k_is); (case su_NoMaking_NoText => k_is); (case su_NoMaking_NoMaking => first | rfl | k_is); (case su_NoMaking_NoRow => k_is); (case su_NoMaking_TooGreat => k_is); (case su_NoMaking_TooLong => k_is); (case su_NoMaking_TooLarge => k_is); (case su_NoMaking_NoName => k_is); (case su_NoMaking_OtherStage => k_is); (case su_NoMaking_Shut => k_is); (case su_NoMaking_WrongKind => k_is); (case su_NoMaking_NoPiece => k_is); (case su_NoMaking_NoGap => k_is); (case su_NoMaking_Unlike => k_is); (case su_NoMaking_GapLeft => k_is); (case su_NoMaking_NoRub => k_is); (case ex_NoRow => k_exc); (case kc_NoRow => k_is); (case sb_NoRow => k_is); (case xb_NoRow => k_is); (case xc_NoRow => k_is); (case xd_NoRow => k_is); (case xe_NoRow => first | rfl | decide +kernel | k_is); (case xf_NoRow => first | rfl | decide +kernel | k_is); (case xg_NoRow => k_is); (case sv_NoRow => k_is); (case su_NoRow_GapError => k_is); (case su_NoRow_NoPlace => k_is); (case su_NoRow_NoText => k_is); (case su_NoRow_NoMaking => k_is); (case su_NoRow_NoRow => first | rfl | k_is); (case su_NoRow_TooGreat => k_is); (case su_NoRow_TooLong => k_is); (case su_NoRow_TooLarge => k_is); (case su_NoRow_NoName => k_is); (case su_NoRow_OtherStage => k_is); (case su_NoRow_Shut => k_is); (case su_NoRow_WrongKind => k_is); (case su_NoRow_NoPiece => k_is); (case su_NoRow_NoGap => k_is); (case su_NoRow_Unlike => k_is); (case su_NoRow_GapLeft => k_is); (case su_NoRow_NoRub => k_is); (case kc_TooGreat => k_is); (case sb_TooGreat => k_is); (case xb_TooGreat => k_is); (case xc_TooGreat => k_is); (case xd_TooGreat => k_is); (case xe_TooGreat => first | rfl | decide +kernel | k_is); (case xf_TooGreat => first | rfl | decide +kernel | k_is); (case xg_TooGreat => k_is); (case sv_TooGreat => k_is); (case su_TooGreat_GapError => k_is); (case su_TooGreat_NoPlace => k_is); (case su_TooGreat_NoText => k_is); (case su_TooGreat_NoMaking => k_is); (case su_TooGreat_NoRow => k_is); (case su_TooGreat_TooGreat => first | rfl | k_is); (case su_TooGreat_TooLong => k_is); (case su_TooGreat_TooLarge => k_is); (case su_TooGreat_NoName => k_is); (case su_TooGreat_OtherStage => k_is); (case su_TooGreat_Shut => k_is); (case su_TooGreat_WrongKind => k_is); (case su_TooGreat_NoPiece => k_is); (case su_TooGreat_NoGap => k_is); (case su_TooGreat_Unlike => k_is); (case su_TooGreat_GapLeft => k_is); (case su_TooGreat_NoRub => k_is); (case kc_TooLong => k_is); (case sb_TooLong => k_is); (case xb_TooLong => k_is); (case xc_TooLong => k_is); (case xd_TooLong => k_is); (case xe_TooLong => first | rfl | decide +kernel | k_is); (case xf_TooLong => first | rfl | decide +kernel | k_is); (case xg_TooLong => k_is); (case sv_TooLong => k_is); (case su_TooLong_GapError => k_is); (case su_TooLong_NoPlace => k_is); (case su_TooLong_NoText => k_is); (case su_TooLong_NoMaking => k_is); (case su_TooLong_NoRow => k_is); (case su_TooLong_TooGreat => k_is); (case su_TooLong_TooLong => first | rfl | k_is); (case su_TooLong_TooLarge => k_is); (case su_TooLong_NoName => k_is); (case su_TooLong_OtherStage => k_is); (case su_TooLong_Shut => k_is); (case su_TooLong_WrongKind => k_is); (case su_TooLong_NoPiece => k_is); (case su_TooLong_NoGap => k_is); (case su_TooLong_Unlike => k_is); (case su_TooLong_GapLeft => k_is); (case su_TooLong_NoRub => k_is); (case kc_TooLarge => k_is); (case sb_TooLarge => k_is); (case xb_TooLarge => k_is); (case xc_TooLarge => k_is); (case xd_TooLarge => k_is); (case xe_TooLarge => first | rfl | decide +kernel | k_is); (case xf_TooLarge => first | rfl | decide +kernel | k_is); (case xg_TooLarge => k_is); (case sv_TooLarge => k_is); (case su_TooLarge_GapError => k_is); (case su_TooLarge_NoPlace => k_is); (case su_TooLarge_NoText => k_is); (case su_TooLarge_NoMaking => k_is); (case su_TooLarge_NoRow => k_is); (case su_TooLarge_TooGreat => k_is); (case su_TooLarge_TooLong => k_is); (case su_TooLarge_TooLarge => first | rfl | k_is); (case su_TooLarge_NoName => k_is); (case su_TooLarge_OtherStage => k_is); (case su_TooLarge_Shut => k_is); (case su_TooLarge_WrongKind => k_is); (case su_TooLarge_NoPiece => k_is); (case su_TooLarge_NoGap => k_is); (case su_TooLarge_Unlike => k_is); (case su_TooLarge_GapLeft => k_is); (case su_TooLarge_NoRub => k_is); (case kc_NoName => k_is); (case sb_NoName => k_is); (case xb_NoName => k_is); (case xc_NoName => k_is); (case xd_NoName => k_is); (case xe_NoName => first | rfl | decide +kernel | k_is); (case xf_NoName => first | rfl | decide +kernel | k_is); (case xg_NoName => k_is); (case sv_NoName => k_is); (case su_NoName_GapError => k_is); (case su_NoName_NoPlace => k_is); (case su_NoName_NoText => k_is); (case su_NoName_NoMaking => k_is); (case su_NoName_NoRow => k_is); (case su_NoName_TooGreat => k_is); (case su_NoName_TooLong => k_is); (case su_NoName_TooLarge => k_is); (case su_NoName_NoName => first | rfl | k_is); (case su_NoName_OtherStage => k_is); (case su_NoName_Shut => k_is); (case su_NoName_WrongKind => k_is); (case su_NoName_NoPiece => k_is); (case su_NoName_NoGap => k_is); (case su_NoName_Unlike => k_is); (case su_NoName_GapLeft => k_is); (case su_NoName_NoRub => k_is); (case kc_OtherStage => k_is); (case sb_OtherStage => k_is); (case xb_OtherStage => k_is); (case xc_OtherStage => k_is); (case xd_OtherStage => k_is); (case xe_OtherStage => first | rfl | decide +kernel | k_is); (case xf_OtherStage => first | rfl | decide +kernel | k_is); (case xg_OtherStage => k_is); (case sv_OtherStage => k_is); (case su_OtherStage_GapError => k_is); (case su_OtherStage_NoPlace => k_is); (case su_OtherStage_NoText => k_is); (case su_OtherStage_NoMaking => k_is); (case su_OtherStage_NoRow => k_is); (case su_OtherStage_TooGreat => k_is); (case su_OtherStage_TooLong => k_is); (case su_OtherStage_TooLarge => k_is); (case su_OtherStage_NoName => k_is); (case su_OtherStage_OtherStage => first | rfl | k_is); (case su_OtherStage_Shut => k_is); (case su_OtherStage_WrongKind => k_is); (case su_OtherStage_NoPiece => k_is); (case su_OtherStage_NoGap => k_is); (case su_OtherStage_Unlike => k_is); (case su_OtherStage_GapLeft => k_is); (case su_OtherStage_NoRub => k_is); (case kc_Shut => k_is); (case sb_Shut => k_is); (case xb_Shut => k_is); (case xc_Shut => k_is); (case xd_Shut => k_is); (case xe_Shut => first | rfl | decide +kernel | k_is); (case xf_Shut => first | rfl | decide +kernel | k_is); (case xg_Shut => k_is); (case sv_Shut => k_is); (case su_Shut_GapError => k_is); (case su_Shut_NoPlace => k_is); (case su_Shut_NoText => k_is); (case su_Shut_NoMaking => k_is); (case su_Shut_NoRow => k_is); (case su_Shut_TooGreat => k_is); (case su_Shut_TooLong => k_is); (case su_Shut_TooLarge => k_is); (case su_Shut_NoName => k_is); (case su_Shut_OtherStage => k_is); (case su_Shut_Shut => first | rfl | k_is); (case su_Shut_WrongKind => k_is); (case su_Shut_NoPiece => k_is); (case su_Shut_NoGap => k_is); (case su_Shut_Unlike => k_is); (case su_Shut_GapLeft => k_is); (case su_Shut_NoRub => k_is); (case kc_WrongKind => k_is); (case sb_WrongKind => k_is); (case xb_WrongKind => k_is); (case xc_WrongKind => k_is); (case xd_WrongKind => k_is); (case xe_WrongKind => first | rfl | decide +kernel | k_is); (case xf_WrongKind => first | rfl | decide +kernel | k_is); (case xg_WrongKind => k_is); (case sv_WrongKind => k_is); (case su_WrongKind_GapError => k_is); (case su_WrongKind_NoPlace => k_is); (case su_WrongKind_NoText => k_is); (case su_WrongKind_NoMaking => k_is); (case su_WrongKind_NoRow => k_is); (case su_WrongKind_TooGreat => k_is); (case su_WrongKind_TooLong => k_is); (case su_WrongKind_TooLarge => k_is); (case su_WrongKind_NoName => k_is); (case su_WrongKind_OtherStage => k_is); (case su_WrongKind_Shut => k_is); (case su_WrongKind_WrongKind => first | rfl | k_is); (case su_WrongKind_NoPiece => k_is); (case su_WrongKind_NoGap => k_is); (case su_WrongKind_Unlike => k_is); (case su_WrongKind_GapLeft => k_is); (case su_WrongKind_NoRub => k_is); (case kc_NoPiece => k_is); (case sb_NoPiece => k_is); (case xb_NoPiece => k_is); (case xc_NoPiece => k_is); (case xd_NoPiece => k_is); (case xe_NoPiece => first | rfl | decide +kernel | k_is); (case xf_NoPiece => first | rfl | decide +kernel | k_is); (case xg_NoPiece => k_is); (case sv_NoPiece => k_is); (case su_NoPiece_GapError => k_is); (case su_NoPiece_NoPlace => k_is); (case su_NoPiece_NoText => k_is); (case su_NoPiece_NoMaking => k_is); (case su_NoPiece_NoRow => k_is); (case su_NoPiece_TooGreat => k_is); (case su_NoPiece_TooLong => k_is); (case su_NoPiece_TooLarge => k_is); (case su_NoPiece_NoName => k_is); (case su_NoPiece_OtherStage => k_is); (case su_NoPiece_Shut => k_is); (case su_NoPiece_WrongKind => k_is); (case su_NoPiece_NoPiece => first | rfl | k_is); (case su_NoPiece_NoGap => k_is); (case su_NoPiece_Unlike => k_is); (case su_NoPiece_GapLeft => k_is); (case su_NoPiece_NoRub => k_is); (case kc_NoGap => k_is); (case sb_NoGap => k_is); (case xb_NoGap => k_is); (case xc_NoGap => k_is); (case xd_NoGap => k_is); (case xe_NoGap => first | rfl | decide +kernel | k_is); (case xf_NoGap => first | rfl | decide +kernel | k_is); (case xg_NoGap => k_is); (case sv_NoGap => k_is); (case su_NoGap_GapError => k_is); (case su_NoGap_NoPlace => k_is); (case su_NoGap_NoText => k_is); (case su_NoGap_NoMaking => k_is); (case su_NoGap_NoRow => k_is); (case su_NoGap_TooGreat => k_is); (case su_NoGap_TooLong => k_is); (case su_NoGap_TooLarge => k_is); (case su_NoGap_NoName => k_is); (case su_NoGap_OtherStage => k_is); (case su_NoGap_Shut => k_is); (case su_NoGap_WrongKind => k_is); (case su_NoGap_NoPiece => k_is); (case su_NoGap_NoGap => first | rfl | k_is); (case su_NoGap_Unlike => k_is); (case su_NoGap_GapLeft => k_is); (case su_NoGap_NoRub => k_is); (case kc_Unlike => k_is); (case sb_Unlike => k_is); (case xb_Unlike => k_is); (case xc_Unlike => k_is); (case xd_Unlike => k_is); (case xe_Unlike => first | rfl | decide +kernel | k_is); (case xf_Unlike => first | rfl | decide +kernel | k_is); (case xg_Unlike => k_is); (case sv_Unlike => k_is); (case su_Unlike_GapError => k_is); (case su_Unlike_NoPlace => k_is); (case su_Unlike_NoText => k_is); (case su_Unlike_NoMaking => k_is); (case su_Unlike_NoRow => k_is); (case su_Unlike_TooGreat => k_is); (case su_Unlike_TooLong => k_is); (case su_Unlike_TooLarge => k_is); (case su_Unlike_NoName => k_is); (case su_Unlike_OtherStage => k_is); (case su_Unlike_Shut => k_is); (case su_Unlike_WrongKind => k_is); (case su_Unlike_NoPiece => k_is); (case su_Unlike_NoGap => k_is); (case su_Unlike_Unlike => first | rfl | k_is); (case su_Unlike_GapLeft => k_is); (case su_Unlike_NoRub => k_is); (case kc_GapLeft => k_is); (case sb_GapLeft => k_is); (case xb_GapLeft => k_is); (case xc_GapLeft => k_is); (case xd_GapLeft => k_is); (case xe_GapLeft => first | rfl | decide +kernel | k_is); (case xf_GapLeft => first | rfl | decide +kernel | k_is); (case xg_GapLeft => k_is); (case sv_GapLeft => k_is); (case su_GapLeft_GapError => k_is); (case su_GapLeft_NoPlace => k_is); (case su_GapLeft_NoText => k_is); (case su_GapLeft_NoMaking => k_is); (case su_GapLeft_NoRow => k_is); (case su_GapLeft_TooGreat => k_is); (case su_GapLeft_TooLong => k_is); (case su_GapLeft_TooLarge => k_is); (case su_GapLeft_NoName => k_is); (case su_GapLeft_OtherStage => k_is); (case su_GapLeft_Shut => k_is); (case su_GapLeft_WrongKind => k_is); (case su_GapLeft_NoPiece => k_is); (case su_GapLeft_NoGap => k_is); (case su_GapLeft_Unlike => k_is); (case su_GapLeft_GapLeft => first | rfl | k_is); (case su_GapLeft_NoRub => k_is); (case kc_NoRub => k_is); (case sb_NoRub => k_is); (case xb_NoRub => k_is); (case xc_NoRub => k_is); (case xd_NoRub => k_is); (case xe_NoRub => first | rfl | decide +kernel | k_is); (case xf_NoRub => first | rfl | decide +kernel | k_is); (case xg_NoRub => k_is); (case sv_NoRub => k_is); (case su_NoRub_GapError => k_is); (case su_NoRub_NoPlace => k_is); (case su_NoRub_NoText => k_is); (case su_NoRub_NoMaking => k_is); (case su_NoRub_NoRow => k_is); (case su_NoRub_TooGreat => k_is); (case su_NoRub_TooLong => k_is); (case su_NoRub_TooLarge => k_is); (case su_NoRub_NoName => k_is); (case su_NoRub_OtherStage => k_is); (case su_NoRub_Shut => k_is); (case su_NoRub_WrongKind => k_is); (case su_NoRub_NoPiece => k_is); (case su_NoRub_NoGap => k_is); (case su_NoRub_Unlike => k_is); (case su_NoRub_GapLeft => k_is); (case su_NoRub_NoRub => first | rfl | k_is); (case z_ValueError => k_is); (case z_all => k_is); (case z_enumerate => k_is); (case z_isinstance => k_is); (case z_len => k_is); (case z_list => k_is); (case z_max => k_is); (case z_min => k_is); (case z_range => k_is); (case z_tuple => k_is)
