import PyProof.Rows.All
import Wide.All
import OpenK.AllK
import Wide.FinOn
import HandS.ForMost
import HandS.ForExc
import HandS.Defaults
import HandS.OwnEq
import HandS.IsInst
import HandS.Wide
import HandS.Walk
import HandS.Flow
import HandS.CallSlots
import HandS.HeadHook1
import HandS.ExcField
import HandS.ExcInit
import HandS.TupAny
import HandS.TryOnly
import KE.KFmtOwn
import HandS.Head0
import HandS.Head1
import HandS.Head2
import HandS.HeadEnd
import HandS.HeadHook2
import HandS.TryMany
import HandS.ExcIs
import KE.KExcIs
import PySem.Challenge.RW_plainford_k02_dates_that_are_none

/-! PmA -/
section
set_option Elab.async false
set_option linter.all false
set_option maxRecDepth 100000
set_option maxHeartbeats 4000000
/-! ### data, stores, results: what a def computes, without a heap -/
namespace PM
open PySem L2

inductive D where
  | non | bl (b : Bool) | int (i : Int) | str (x : Str) | ty (n : String) | cls (c : Str)
  | ref (n : Nat)
  | tup (xs : List D) | lst (xs : List D)
  | ins (c : Str) (fs : List (Str × D))
  | xcl (c : Str) | exn (c : Str) (fs : List (Str × D))
inductive MO where
  | lst (xs : List D)
  | ins (c : Str) (fs : List (Str × D))
mutual
/-- nothing in it may change -/
def D.pureB : D → Bool
  | .ref _ => false
  | .tup xs => D.pureL xs
  | .lst xs => D.pureL xs
  | .ins _ fs => D.pureF fs
  | .exn _ fs => D.pureF fs
  | .xcl _ => true | .non => true | .bl _ => true | .int _ => true | .str _ => true | .ty _ => true | .cls _ => true
def D.pureL : List D → Bool
  | [] => true
  | x :: r => x.pureB && D.pureL r
def D.pureF : List (Str × D) → Bool
  | [] => true
  | (_, x) :: r => x.pureB && D.pureF r
end
def MO.pureB : MO → Bool
  | .lst xs => D.pureL xs
  | .ins _ fs => D.pureF fs
abbrev Sto := List MO
abbrev Slots := List (Option D)
structure Exn where
  cls : Str
  fs : List (Str × D)
inductive Res (α : Type) where
  | ok (a : α) (s : Sto) | exc (x : Exn) (s : Sto) | bad
def Res.bind {α β : Type} (r : Res α) (k : α → Sto → Res β) : Res β := match r with
  | .ok a s => k a s
  | .exc x s => .exc x s
  | .bad => .bad
inductive SR where
  | next (e : Slots) (s : Sto) | ret (d : D) (s : Sto) | brk (e : Slots) (s : Sto) | cont (e : Slots) (s : Sto) | exc (x : Exn) (e : Slots) (s : Sto) | bad
abbrev M (α : Type) := Slots → Sto → Res α
abbrev MS := Slots → Sto → SR
abbrev FM := List D → Sto → Res D
/-- the addresses of what may change; what stands by and must stay -/
structure Io where
  l : List Addr
  r : Hp
abbrev Io.app (ι : Io) (p : Addr) : Io := ⟨ι.l ++ [p], ι.r⟩
abbrev Io.take (ι : Io) (n : Nat) : Io := ⟨ι.l.take n, ι.r⟩

/-- at a: an exception of the class at C, its dict (none | at d) -/
def ExH (a C : Addr) (d : Option Addr) : HO := .ext fun h => ∃ (oe : Obj) (vs : Array Value), h.get? a = some oe ∧ Zc (.ref C) d oe ∧ oe.data = .fields vs
theorem exH_ok {P : Program} {w : World} {H : Hp} {h : Heap} {a C : Addr} {d : Option Addr} {oe : Obj} {vs : Array Value} (e : h.get? a = some oe) (z : Zc (.ref C) d oe) (dd : oe.data = .fields vs) : ObjOk P w H h a (ExH a C d) :=
  ⟨⟨oe, vs, e, z, dd⟩, ⟨oe, e⟩, fun _ _ ⟨o, v, q, r⟩ k => ⟨o, v, k o q, r⟩⟩
section
variable (K : PySem.W.Frag) (cm : Str → Option Addr) (F : Hp) (ι : Io)
mutual
inductive Rep : D → V → Prop where
  | non : Rep .non .non
  | bl (b : Bool) : Rep (.bl b) (.bl b)
  | int (i : Int) : Rep (.int i) (.int i)
  | str (x : Str) : Rep (.str x) (.str x)
  | ty (n : String) : Rep (.ty n) (.ty n)
  | cls {c : Str} {C : Addr} : cm c = some C → Rep (.cls c) (.ref C)
  | ref {n : Nat} {a : Addr} : ι.l[n]? = some a → Rep (.ref n) (.ref a)
  | tup {a : Addr} {vs : List V} {ds : List D} : SqT K F a vs → RepL ds vs → Rep (.tup ds) (.ref a)
  | lst {a : Addr} {vs : List V} {ds : List D} : SqL K F a vs → RepL ds vs → Rep (.lst ds) (.ref a)
  | ins {a C dx : Addr} {c : Str} {gs : List (Str × V)} {fs : List (Str × D)} : cm c = some C → F a = some (.ins C dx gs) → RepF fs gs → Rep (.ins c fs) (.ref a)
  | xcl (c : Str) : Rep (.xcl c) (.ref (He.ga K c))
  | exn0 {a : Addr} {c : Str} : F a = some (ExH a (He.ga K c) none) → Rep (.exn c []) (.ref a)
  | exn {a dx : Addr} {c : Str} {gs : List (Str × V)} {fs : List (Str × D)} : F a = some (ExH a (He.ga K c) (some dx)) → F dx = some (.xd gs) → RepF fs gs → Rep (.exn c fs) (.ref a)
inductive RepL : List D → List V → Prop where
  | nil : RepL [] []
  | cons {d : D} {v : V} {ds : List D} {vs : List V} : Rep d v → RepL ds vs → RepL (d :: ds) (v :: vs)
inductive RepF : List (Str × D) → List (Str × V) → Prop where
  | nil : RepF [] []
  | cons {f : Str} {d : D} {v : V} {ds : List (Str × D)} {vs : List (Str × V)} : Rep d v → RepF ds vs → RepF ((f, d) :: ds) ((f, v) :: vs)
end
def RepO : MO → Option HO → Prop
  | .lst ds, h => ∃ vs, h = some (.lst vs) ∧ RepL K cm F ι ds vs
  | .ins c fs, h => ∃ C dx gs, h = some (.ins C dx gs) ∧ cm c = some C ∧ RepF K cm F ι fs gs
def RepE (env : Slots) (σ : St) : Prop := env.length = σ.length ∧ ∀ (i : Nat) (d : D), env[i]? = some (some d) → ∃ v, σ[i]? = some (some v) ∧ Rep K cm F ι d v
structure Wd (s : Sto) (H : Hp) : Prop where
  sub : ∀ a o, F a = some o → H a = some o
  len : ι.l.length = s.length
  cur : ∀ (n : Nat) (o : MO) (a : Addr), s[n]? = some o → ι.l[n]? = some a → RepO K cm F ι o (H a)
  nof : ∀ a ∈ ι.l, F a = none
  nd : ι.l.Nodup
  pur : ∀ (n : Nat) (o : MO), s[n]? = some o → o.pureB = true
  res : ∀ a o, ι.r a = some o → H a = some o ∧ F a = none ∧ a ∉ ι.l
/-- what stands for an exception -/
def ExR (x : Exn) (c : Value) (d : Option Addr) : Prop := c = .ref (He.ga K x.cls) ∧ ((x.fs = [] ∧ d = none) ∨ ∃ dx gs, d = some dx ∧ F dx = some (.xd gs) ∧ RepF K cm F ι x.fs gs)
end
def Le (F F' : Hp) : Prop := ∀ a o, F a = some o → F' a = some o
theorem Le.refl {F : Hp} : Le F F := fun _ _ h => h
theorem Le.trans {F G H : Hp} (a : Le F G) (b : Le G H) : Le F H := fun x o h => b x o (a x o h)
theorem Le.new {F : Hp} {p : Addr} {o : HO} (h : F p = none) : Le F (upd F p o) := fun a u e => by rw [upd_ne (ne_of_none e h)]; exact e
theorem Le.rd {H H' : Hp} {a : Addr} {u : HO} (e : Le H H') (h : Rd H a u) : Rd H' a u := h.elim (fun h => .inl (e a _ h)) fun ⟨o, h⟩ => .inr ⟨o, e a _ h⟩
theorem Le.l {K : PySem.W.Frag} {H H' : Hp} {a : Addr} {xs : List V} (e : Le H H') (h : SqL K H a xs) : SqL K H' a xs := h.elim (fun h => .inl (e.rd h)) .inr
theorem Le.t {K : PySem.W.Frag} {H H' : Hp} {a : Addr} {xs : List V} (e : Le H H') (h : SqT K H a xs) : SqT K H' a xs := h.elim (fun h => .inl (e.rd h)) .inr
/-- the store's addresses go on -/
def Ge (ι ι' : Io) : Prop := ι'.r = ι.r ∧ ∀ (n : Nat) (a : Addr), ι.l[n]? = some a → ι'.l[n]? = some a
theorem Ge.refl {ι : Io} : Ge ι ι := ⟨rfl, fun _ _ h => h⟩
theorem Ge.trans {a b c : Io} (h : Ge a b) (k : Ge b c) : Ge a c := ⟨k.1.trans h.1, fun n x e => k.2 n x (h.2 n x e)⟩
theorem Ge.app {ι : Io} {p : Addr} : Ge ι (ι.app p) := ⟨rfl, fun n a h => by
  have hl := (List.getElem?_eq_some_iff.mp h).1
  show (ι.l ++ [p])[n]? = some a
  rw [List.getElem?_append_left hl]; exact h⟩
section
variable {K : PySem.W.Frag} {cm : Str → Option Addr} {F F' : Hp} {ι ι' : Io}
mutual
theorem Rep.gro (e : Le F F') (g : ∀ (n : Nat) (a : Addr), ι.l[n]? = some a → ι'.l[n]? = some a) : ∀ {d : D} {v : V}, Rep K cm F ι d v → Rep K cm F' ι' d v
  | _, _, .non => .non
  | _, _, .bl b => .bl b
  | _, _, .int b => .int b
  | _, _, .str b => .str b
  | _, _, .ty b => .ty b
  | _, _, .cls h => .cls h
  | _, _, .ref h => .ref (g _ _ h)
  | _, _, .tup h r => .tup (e.t h) (RepL.gro e g r)
  | _, _, .lst h r => .lst (e.l h) (RepL.gro e g r)
  | _, _, .ins h k r => .ins h (e _ _ k) (RepF.gro e g r)
  | _, _, .xcl c => .xcl c
  | _, _, .exn0 h => .exn0 (e _ _ h)
  | _, _, .exn h k r => .exn (e _ _ h) (e _ _ k) (RepF.gro e g r)
theorem RepL.gro (e : Le F F') (g : ∀ (n : Nat) (a : Addr), ι.l[n]? = some a → ι'.l[n]? = some a) : ∀ {ds : List D} {vs : List V}, RepL K cm F ι ds vs → RepL K cm F' ι' ds vs
  | _, _, .nil => .nil
  | _, _, .cons r t => .cons (Rep.gro e g r) (RepL.gro e g t)
theorem RepF.gro (e : Le F F') (g : ∀ (n : Nat) (a : Addr), ι.l[n]? = some a → ι'.l[n]? = some a) : ∀ {ds : List (Str × D)} {vs : List (Str × V)}, RepF K cm F ι ds vs → RepF K cm F' ι' ds vs
  | _, _, .nil => .nil
  | _, _, .cons r t => .cons (Rep.gro e g r) (RepF.gro e g t)
end
theorem Rep.mono (e : Le F F') (g : Ge ι ι') {d : D} {v : V} (r : Rep K cm F ι d v) : Rep K cm F' ι' d v := r.gro e g.2
theorem RepL.mono (e : Le F F') (g : Ge ι ι') {ds : List D} {vs : List V} (r : RepL K cm F ι ds vs) : RepL K cm F' ι' ds vs := r.gro e g.2
theorem RepF.mono (e : Le F F') (g : Ge ι ι') {ds : List (Str × D)} {vs : List (Str × V)} (r : RepF K cm F ι ds vs) : RepF K cm F' ι' ds vs := r.gro e g.2
theorem RepL.length : ∀ {ds : List D} {vs : List V}, RepL K cm F ι ds vs → ds.length = vs.length
  | _, _, .nil => rfl
  | _, _, .cons _ t => congrArg (· + 1) t.length
theorem RepL.get : ∀ {ds : List D} {vs : List V} {i : Nat} {d : D}, RepL K cm F ι ds vs → ds[i]? = some d → ∃ v, vs[i]? = some v ∧ Rep K cm F ι d v
  | _, _, _, _, .nil, h => by simp at h
  | _, _, 0, _, .cons r _, h => by simp at h; subst h; exact ⟨_, rfl, r⟩
  | _, _, i + 1, _, .cons _ t, h => by
    obtain ⟨v, e, r⟩ := t.get (i := i) (by simpa using h)
    exact ⟨v, by simpa using e, r⟩
theorem RepL.getV : ∀ {ds : List D} {vs : List V} {i : Nat} {v : V}, RepL K cm F ι ds vs → vs[i]? = some v → ∃ d, ds[i]? = some d ∧ Rep K cm F ι d v
  | _, _, _, _, .nil, h => by simp at h
  | _, _, 0, _, .cons r _, h => by simp at h; subst h; exact ⟨_, rfl, r⟩
  | _, _, i + 1, _, .cons _ t, h => by
    obtain ⟨v, e, r⟩ := t.getV (i := i) (by simpa using h)
    exact ⟨v, by simpa using e, r⟩
theorem RepL.append : ∀ {ds es : List D} {vs ws : List V}, RepL K cm F ι ds vs → RepL K cm F ι es ws → RepL K cm F ι (ds ++ es) (vs ++ ws)
  | _, _, _, _, .nil, k => k
  | _, _, _, _, .cons r t, k => .cons r (t.append k)
theorem RepL.set {d : D} {v : V} (r : Rep K cm F ι d v) : ∀ {ds : List D} {vs : List V} (i : Nat), RepL K cm F ι ds vs → RepL K cm F ι (ds.set i d) (vs.set i v)
  | _, _, _, .nil => .nil
  | _, _, 0, .cons _ t => .cons r t
  | _, _, i + 1, .cons q t => .cons q (RepL.set r i t)
theorem RepL.take : ∀ {ds : List D} {vs : List V} (n : Nat), RepL K cm F ι ds vs → RepL K cm F ι (ds.take n) (vs.take n)
  | _, _, 0, _ => .nil
  | _, _, _ + 1, .nil => .nil
  | _, _, n + 1, .cons r t => .cons r (RepL.take n t)
theorem RepL.drop : ∀ {ds : List D} {vs : List V} (n : Nat), RepL K cm F ι ds vs → RepL K cm F ι (ds.drop n) (vs.drop n)
  | _, _, 0, h => h
  | _, _, _ + 1, .nil => .nil
  | _, _, n + 1, .cons _ t => RepL.drop n t
theorem RepF.lookup {f : Str} : ∀ {ds : List (Str × D)} {vs : List (Str × V)} {d : D}, RepF K cm F ι ds vs → ds.lookup f = some d → ∃ v, vs.lookup f = some v ∧ Rep K cm F ι d v
  | _, _, _, .nil, h => by simp at h
  | _, _, d, .cons (f := g) r t, h => by
    rw [List.lookup_cons] at h ⊢
    cases e : f == g with
    | true =>
      rw [e] at h
      obtain rfl : _ = d := Option.some.inj h
      exact ⟨_, rfl, r⟩
    | false =>
      rw [e] at h
      exact t.lookup h
theorem RepF.length : ∀ {ds : List (Str × D)} {vs : List (Str × V)}, RepF K cm F ι ds vs → ds.length = vs.length
  | _, _, .nil => rfl
  | _, _, .cons _ t => congrArg (· + 1) t.length
theorem RepF.lookup_none {f : Str} : ∀ {ds : List (Str × D)} {vs : List (Str × V)}, RepF K cm F ι ds vs → ds.lookup f = none → vs.lookup f = none
  | _, _, .nil, _ => rfl
  | _, _, .cons (f := g) r t, h => by
    rw [List.lookup_cons] at h ⊢
    cases e : f == g with
    | true => rw [e] at h; cases h
    | false => rw [e] at h; exact t.lookup_none h
theorem RepO.mono (e : Le F F') (g : Ge ι ι') {o : MO} {h : Option HO} (r : RepO K cm F ι o h) : RepO K cm F' ι' o h := by
  cases o with
  | lst ds => obtain ⟨vs, e1, r⟩ := r; exact ⟨vs, e1, r.mono e g⟩
  | ins c fs => obtain ⟨C, dx, gs, e1, e2, r⟩ := r; exact ⟨C, dx, gs, e1, e2, r.mono e g⟩
theorem RepE.mono {env : Slots} {σ : St} (e : Le F F') (g : Ge ι ι') (r : RepE K cm F ι env σ) : RepE K cm F' ι' env σ := ⟨r.1, fun i d h => let ⟨v, a, b⟩ := r.2 i d h; ⟨v, a, b.mono e g⟩⟩
theorem RepE.gro {env : Slots} {σ : St} (e : Le F F') (g : ∀ (n : Nat) (a : Addr), ι.l[n]? = some a → ι'.l[n]? = some a) (r : RepE K cm F ι env σ) : RepE K cm F' ι' env σ := ⟨r.1, fun i d h => let ⟨v, a, b⟩ := r.2 i d h; ⟨v, a, b.gro e g⟩⟩
theorem RepE.set {env : Slots} {σ : St} {d : D} {v : V} (r : RepE K cm F ι env σ) (q : Rep K cm F ι d v) (i : Nat) : RepE K cm F ι (env.set i (some d)) (σ.set i (some v)) := by
  refine ⟨by rw [List.length_set, List.length_set]; exact r.1, fun j e h => ?_⟩
  by_cases hj : j = i
  · subst hj
    have hl : j < env.length := by
      have := (List.getElem?_eq_some_iff.mp h).1
      simpa using this
    rw [List.getElem?_set_self hl] at h
    obtain rfl : d = e := by simpa using h
    exact ⟨v, List.getElem?_set_self (by rw [← r.1]; exact hl), q⟩
  · rw [List.getElem?_set_ne (Ne.symm hj)] at h
    rw [List.getElem?_set_ne (Ne.symm hj)]
    exact r.2 j e h
theorem RepE.unset {env : Slots} {σ : St} (r : RepE K cm F ι env σ) (i : Nat) : RepE K cm F ι (env.set i none) (σ.set i none) := by
  refine ⟨by rw [List.length_set, List.length_set]; exact r.1, fun j e h => ?_⟩
  by_cases hj : j = i
  · subst hj
    have hl : j < env.length := by
      have := (List.getElem?_eq_some_iff.mp h).1
      simpa using this
    rw [List.getElem?_set_self hl] at h
    simp at h
  · rw [List.getElem?_set_ne (Ne.symm hj)] at h
    rw [List.getElem?_set_ne (Ne.symm hj)]
    exact r.2 j e h
variable {s : Sto} {H : Hp}
theorem Wd.fresh (w : Wd K cm F ι s H) {p : Addr} (h : H p = none) : F p = none := by
  cases e : F p with
  | none => rfl
  | some o => rw [w.sub p o e] at h; cases h
theorem Wd.live (w : Wd K cm F ι s H) {n : Nat} {a : Addr} (h : ι.l[n]? = some a) : ∃ o, H a = some o := by
  have hn : n < s.length := by rw [← w.len]; exact (List.getElem?_eq_some_iff.mp h).1
  have q := w.cur n s[n] a (List.getElem?_eq_getElem hn) h
  cases e : s[n] with
  | lst ds => rw [e] at q; obtain ⟨vs, e, _⟩ := q; exact ⟨_, e⟩
  | ins c fs => rw [e] at q; obtain ⟨C, dx, gs, e, _⟩ := q; exact ⟨_, e⟩
theorem Wd.notin (w : Wd K cm F ι s H) {p : Addr} (h : H p = none) : p ∉ ι.l := fun hm => by
  obtain ⟨n, hn, e⟩ := List.getElem_of_mem hm
  obtain ⟨o, q⟩ := w.live (List.getElem?_eq_some_iff.mpr ⟨hn, e⟩)
  rw [h] at q; cases q
/-- a new frozen thing -/
theorem Wd.frz (w : Wd K cm F ι s H) {p : Addr} {o : HO} (h : H p = none) : Wd K cm (upd F p o) ι s (upd H p o) where
  sub := fun a u e => by
    by_cases q : a = p
    · subst q; rw [upd_same] at e ⊢; exact e
    · rw [upd_ne q] at e ⊢; exact w.sub a u e
  len := w.len
  cur := fun n o' a h1 h2 => by
    have q : a ≠ p := fun z => w.notin h (z ▸ List.mem_of_getElem? h2)
    rw [upd_ne q]
    exact (w.cur n o' a h1 h2).mono (Le.new (w.fresh h)) .refl
  nof := fun a ha => by
    have q : a ≠ p := fun z => w.notin h (z ▸ ha)
    rw [upd_ne q]; exact w.nof a ha
  nd := w.nd
  pur := w.pur
  res := fun a u e => by
    obtain ⟨h1, h2, h3⟩ := w.res a u e
    have q : a ≠ p := fun z => by rw [z, h] at h1; cases h1
    rw [upd_ne q, upd_ne q]; exact ⟨h1, h2, h3⟩
/-- a new thing that may change -/
theorem Wd.new (w : Wd K cm F ι s H) {p : Addr} {o : HO} {mo : MO} (h : H p = none) (r : RepO K cm F ι mo (some o)) (hp : mo.pureB = true) : Wd K cm F (ι.app p) (s ++ [mo]) (upd H p o) where
  sub := fun a u e => by
    have q : a ≠ p := fun z => by subst z; rw [w.fresh h] at e; cases e
    rw [upd_ne q]; exact w.sub a u e
  len := by
    show (ι.l ++ [p]).length = _
    rw [List.length_append, List.length_append, w.len]; rfl
  cur := fun n o' a h1 h2 => by
    by_cases hn : n < s.length
    · rw [List.getElem?_append_left hn] at h1
      rw [List.getElem?_append_left (by rw [w.len]; exact hn)] at h2
      have q : a ≠ p := fun z => w.notin h (z ▸ List.mem_of_getElem? h2)
      rw [upd_ne q]
      exact (w.cur n o' a h1 h2).mono .refl .app
    · have e : n = s.length := by
        have := (List.getElem?_eq_some_iff.mp h1).1
        simp at this; omega
      subst e
      rw [List.getElem?_append_right (Nat.le_refl _)] at h1
      rw [List.getElem?_append_right (by rw [w.len]; exact Nat.le_refl _), w.len] at h2
      simp at h1 h2
      subst h1; subst h2
      rw [upd_same]
      exact r.mono .refl .app
  nof := fun a ha => by
    rcases List.mem_append.mp ha with ha | ha
    · exact w.nof a ha
    · simp at ha; subst ha; exact w.fresh h
  nd := by
    show (ι.l ++ [p]).Nodup
    rw [List.nodup_append]
    exact ⟨w.nd, by simp, fun a ha b hb z => w.notin h (by simp at hb; rw [← hb, ← z]; exact ha)⟩
  pur := fun n o' h1 => by
    by_cases hn : n < s.length
    · rw [List.getElem?_append_left hn] at h1
      exact w.pur n o' h1
    · rw [List.getElem?_append_right (Nat.le_of_not_lt hn)] at h1
      cases e : n - s.length with
      | zero => rw [e] at h1; simp at h1; rw [← h1]; exact hp
      | succ k => rw [e] at h1; simp at h1
  res := fun a u e => by
    obtain ⟨h1, h2, h3⟩ := w.res a u e
    have q : a ≠ p := fun z => by rw [z, h] at h1; cases h1
    rw [upd_ne q]; exact ⟨h1, h2, fun z => (List.mem_append.mp z).elim h3 fun z => q (by simpa using z)⟩
theorem nodup_get {l : List Addr} (hN : l.Nodup) {i j : Nat} {x : Addr} (a : l[i]? = some x) (b : l[j]? = some x) : i = j := by
  obtain ⟨h1, e1⟩ := List.getElem?_eq_some_iff.mp a
  obtain ⟨h2, e2⟩ := List.getElem?_eq_some_iff.mp b
  exact (List.getElem_inj hN).mp (e1.trans e2.symm)
/-- a change -/
theorem Wd.put (w : Wd K cm F ι s H) {n : Nat} {a : Addr} {o : HO} {mo : MO} (h : ι.l[n]? = some a) (r : RepO K cm F ι mo (some o)) (hp : mo.pureB = true) : Wd K cm F ι (s.set n mo) (upd H a o) where
  sub := fun b u e => by
    have q : b ≠ a := fun z => by subst z; rw [w.nof b (List.mem_of_getElem? h)] at e; cases e
    rw [upd_ne q]; exact w.sub b u e
  len := by rw [List.length_set]; exact w.len
  cur := fun m o' b h1 h2 => by
    by_cases hm : m = n
    · subst hm
      rw [h] at h2; cases h2
      have hl : m < s.length := by
        have := (List.getElem?_eq_some_iff.mp h1).1
        simpa using this
      rw [List.getElem?_set_self hl] at h1
      cases h1
      rw [upd_same]; exact r
    · rw [List.getElem?_set_ne (Ne.symm hm)] at h1
      have q : b ≠ a := fun z => hm (nodup_get w.nd (z ▸ h2) h)
      rw [upd_ne q]
      exact w.cur m o' b h1 h2
  nof := w.nof
  nd := w.nd
  pur := fun m o' h1 => by
    by_cases hm : m = n
    · subst hm
      have hl : m < s.length := by
        have := (List.getElem?_eq_some_iff.mp h1).1
        simpa using this
      rw [List.getElem?_set_self hl] at h1
      cases h1
      exact hp
    · rw [List.getElem?_set_ne (Ne.symm hm)] at h1
      exact w.pur m o' h1
  res := fun b u e => by
    obtain ⟨h1, h2, h3⟩ := w.res b u e
    have q : b ≠ a := fun z => h3 (z ▸ List.mem_of_getElem? h)
    rw [upd_ne q]; exact ⟨h1, h2, h3⟩
mutual
theorem Rep.pure (e : Le F F') : ∀ {d : D} {v : V}, d.pureB = true → Rep K cm F ι d v → Rep K cm F' ι' d v
  | _, _, _, .non => .non
  | _, _, _, .bl b => .bl b
  | _, _, _, .int b => .int b
  | _, _, _, .str b => .str b
  | _, _, _, .ty b => .ty b
  | _, _, _, .cls h => .cls h
  | _, _, p, .ref h => by simp [D.pureB] at p
  | _, _, p, .tup h r => .tup (e.t h) (RepL.pure e (by simpa [D.pureB] using p) r)
  | _, _, p, .lst h r => .lst (e.l h) (RepL.pure e (by simpa [D.pureB] using p) r)
  | _, _, p, .ins h k r => .ins h (e _ _ k) (RepF.pure e (by simpa [D.pureB] using p) r)
  | _, _, _, .xcl c => .xcl c
  | _, _, _, .exn0 h => .exn0 (e _ _ h)
  | _, _, p, .exn h k r => .exn (e _ _ h) (e _ _ k) (RepF.pure e (by simpa [D.pureB] using p) r)
theorem RepL.pure (e : Le F F') : ∀ {ds : List D} {vs : List V}, D.pureL ds = true → RepL K cm F ι ds vs → RepL K cm F' ι' ds vs
  | _, _, _, .nil => .nil
  | _, _, p, .cons r t => .cons (Rep.pure e (by simp [D.pureL] at p; exact p.1) r) (RepL.pure e (by simp [D.pureL] at p; exact p.2) t)
theorem RepF.pure (e : Le F F') : ∀ {ds : List (Str × D)} {vs : List (Str × V)}, D.pureF ds = true → RepF K cm F ι ds vs → RepF K cm F' ι' ds vs
  | _, _, _, .nil => .nil
  | _, _, p, .cons r t => .cons (Rep.pure e (by simp [D.pureF] at p; exact p.1) r) (RepF.pure e (by simp [D.pureF] at p; exact p.2) t)
end
theorem RepO.pure (e : Le F F') {o : MO} {h : Option HO} (p : o.pureB = true) (r : RepO K cm F ι o h) : RepO K cm F' ι' o h := by
  cases o with
  | lst ds => obtain ⟨vs, e1, r⟩ := r; exact ⟨vs, e1, r.pure e p⟩
  | ins c fs => obtain ⟨C, dx, gs, e1, e2, r⟩ := r; exact ⟨C, dx, gs, e1, e2, r.pure e p⟩
/-- what was made since is no longer changed -/
theorem Wd.pop (w : Wd K cm F ι s H) (n : Nat) : Wd K cm F (ι.take n) (s.take n) H where
  sub := w.sub
  len := by
    show (ι.l.take n).length = _
    rw [List.length_take, List.length_take, w.len]
  cur := fun m o a h1 h2 => by
    have hm : m < n := by
      have := (List.getElem?_eq_some_iff.mp h1).1
      rw [List.length_take] at this; omega
    rw [List.getElem?_take_of_lt hm] at h1 h2
    exact (w.cur m o a h1 h2).pure .refl (w.pur m o h1)
  nof := fun a ha => w.nof a (List.mem_of_mem_take ha)
  nd := w.nd.sublist (List.take_sublist _ _)
  pur := fun m o h1 => by
    have hm : m < n := by
      have := (List.getElem?_eq_some_iff.mp h1).1
      rw [List.length_take] at this; omega
    rw [List.getElem?_take_of_lt hm] at h1
    exact w.pur m o h1
  res := fun b u e => by
    obtain ⟨h1, h2, h3⟩ := w.res b u e
    exact ⟨h1, h2, fun z => h3 (List.mem_of_mem_take z)⟩
/-- one of the last is frozen -/
theorem Wd.freeze (w : Wd K cm F ι s H) {n m : Nat} {a : Addr} {o : HO} (hn : n ≤ m) (h : ι.l[m]? = some a) (ho : H a = some o) : Wd K cm (upd F a o) (ι.take n) (s.take n) H := by
  have p := w.pop n
  have na : a ∉ ι.l.take n := fun hm => by
    obtain ⟨k, hk, e⟩ := List.getElem_of_mem hm
    have hk' : k < n := by rw [List.length_take] at hk; omega
    have q : ι.l[k]? = some a := by rw [← e, List.getElem_take]; exact List.getElem?_eq_getElem _
    have := nodup_get w.nd q h
    omega
  have fa : F a = none := w.nof a (List.mem_of_getElem? h)
  exact ⟨fun b u e => by
    by_cases q : b = a
    · subst q; rw [upd_same] at e; rw [← e]; exact ho
    · rw [upd_ne q] at e; exact w.sub b u e, p.len, fun k o' b h1 h2 => (p.cur k o' b h1 h2).pure (Le.new fa) (p.pur k o' h1), fun b hb => by
    have q : b ≠ a := fun z => na (z ▸ hb)
    rw [upd_ne q]; exact p.nof b hb, p.nd, p.pur, fun b u e => by
    obtain ⟨h1, h2, h3⟩ := p.res b u e
    have q : b ≠ a := fun z => (w.res b u e).2.2 (z ▸ List.mem_of_getElem? h)
    rw [upd_ne q]; exact ⟨h1, h2, h3⟩⟩
end

/-! ### what is wanted behind a result -/
section
variable (K : PySem.W.Frag) (cm : Str → Option Addr)
def PostG {α β : Type} (R : Hp → Io → α → β → Prop) (W : WX) (F : Hp) (ι : Io) (σ : St) (r : Res α) (Q : β → Hp → Prop) : Prop := match r with
  | .ok a s => ∀ F' ι' H' b, Le F F' → Ge ι ι' → Wd K cm F' ι' s H' → R F' ι' a b → Q b H'
  | .exc x s => ∀ F' ι' H' c dd, Le F F' → Ge ι ι' → Wd K cm F' ι' s H' → ExR K cm F' ι' x c dd → W c dd σ H'
  | .bad => False
def teG {α β : Type} (R : Hp → Io → α → β → Prop) (W : WX) (m : M α) : St → Hp → (β → Hp → Prop) → Prop := fun σ H Q =>
  ∃ F ι env s, Wd K cm F ι s H ∧ RepE K cm F ι env σ ∧ PostG K cm R W F ι σ (m env s) Q
def SPost (W : WX) (F : Hp) (ι : Io) (r : SR) (E : Ends) : Prop := match r with
  | .next e s => ∀ F' ι' H' σ', Le F F' → Ge ι ι' → Wd K cm F' ι' s H' → RepE K cm F' ι' e σ' → E.nx σ' H'
  | .brk e s => ∀ F' ι' H' σ', Le F F' → Ge ι ι' → Wd K cm F' ι' s H' → RepE K cm F' ι' e σ' → E.bk σ' H'
  | .cont e s => ∀ F' ι' H' σ', Le F F' → Ge ι ι' → Wd K cm F' ι' s H' → RepE K cm F' ι' e σ' → E.ct σ' H'
  | .ret d s => ∀ F' ι' H' v, Le F F' → Ge ι ι' → Wd K cm F' ι' s H' → Rep K cm F' ι' d v → E.rt v H'
  | .exc x e s => ∀ F' ι' H' σ' c dd, Le F F' → Ge ι ι' → Wd K cm F' ι' s H' → RepE K cm F' ι' e σ' → ExR K cm F' ι' x c dd → W c dd σ' H'
  | .bad => False
def tsM (W : WX) (m : MS) : TS := fun E σ H => ∃ F ι env s, Wd K cm F ι s H ∧ RepE K cm F ι env σ ∧ SPost K cm W F ι (m env s) E
abbrev rEq {α : Type} : Hp → Io → α → α → Prop := fun _ _ a b => b = a
end
section
variable {K : PySem.W.Frag} {cm : Str → Option Addr} {α β γ δ : Type} {R : Hp → Io → α → β → Prop} {S : Hp → Io → γ → δ → Prop} {W : WX} {F F' : Hp} {ι ι' : Io} {σ : St}
theorem PostG.mono {r : Res α} {Q : β → Hp → Prop} (e : Le F F') (g : Ge ι ι') (h : PostG K cm R W F ι σ r Q) : PostG K cm R W F' ι' σ r Q := by
  cases r with
  | ok a s => exact fun F1 ι1 H1 b le ge w r => h F1 ι1 H1 b (e.trans le) (g.trans ge) w r
  | exc x s => exact fun F1 ι1 H1 c dd le ge w r => h F1 ι1 H1 c dd (e.trans le) (g.trans ge) w r
  | bad => exact h
theorem PostG.imp {r : Res α} {Q Q' : β → Hp → Prop} (h : PostG K cm R W F ι σ r Q) (k : ∀ b H, Q b H → Q' b H) : PostG K cm R W F ι σ r Q' := by
  cases r with
  | ok a s => exact fun F1 ι1 H1 b le ge w r => k _ _ (h F1 ι1 H1 b le ge w r)
  | exc x s => exact h
  | bad => exact h
/-- one thing, then the next -/
theorem PostG.split {r : Res α} {k : α → Sto → Res γ} {Q : δ → Hp → Prop} (h : PostG K cm S W F ι σ (r.bind k) Q) :
    PostG K cm R W F ι σ r (fun b H => ∃ F' ι' a s, Le F F' ∧ Ge ι ι' ∧ Wd K cm F' ι' s H ∧ R F' ι' a b ∧ PostG K cm S W F' ι' σ (k a s) Q) := by
  cases r with
  | ok a s => exact fun F1 ι1 H1 b le ge w r => ⟨F1, ι1, a, s, le, ge, w, r, PostG.mono le ge h⟩
  | exc x s => exact h
  | bad => exact h
theorem SPost.mono {r : SR} {E : Ends} (e : Le F F') (g : Ge ι ι') (h : SPost K cm W F ι r E) : SPost K cm W F' ι' r E := by
  cases r with
  | next => exact fun F1 ι1 H1 b le ge w r => h F1 ι1 H1 b (e.trans le) (g.trans ge) w r
  | brk => exact fun F1 ι1 H1 b le ge w r => h F1 ι1 H1 b (e.trans le) (g.trans ge) w r
  | cont => exact fun F1 ι1 H1 b le ge w r => h F1 ι1 H1 b (e.trans le) (g.trans ge) w r
  | ret => exact fun F1 ι1 H1 b le ge w r => h F1 ι1 H1 b (e.trans le) (g.trans ge) w r
  | exc => exact fun F1 ι1 H1 σ' c dd le ge w r => h F1 ι1 H1 σ' c dd (e.trans le) (g.trans ge) w r
  | bad => exact h
end
end PM
end

/-! PmB -/
section
set_option Elab.async false
set_option linter.all false
set_option maxRecDepth 100000
set_option maxHeartbeats 4000000
/-! ### expressions -/
namespace PM
open PySem L2
abbrev Pe (X : Cx) (cm : Str → Option Addr) (W : WX) (e : Expr) (m : M D) : Prop := PE X e (teG X.K cm (Rep X.K cm) W m)
abbrev Pt (X : Cx) (cm : Str → Option Addr) (W : WX) (e : Expr) (m : M Bool) : Prop := PT X e (teG X.K cm rEq W m)
abbrev Pw (X : Cx) (cm : Str → Option Addr) (W : WX) (e : Expr) (m : M Bool) : Prop := PW X e (teG X.K cm rEq W m)
abbrev Pa (X : Cx) (cm : Str → Option Addr) (W : WX) (es : List Expr) (m : M (List D)) : Prop := PA X es (teG X.K cm (RepL X.K cm) W m)
abbrev Pk (X : Cx) (cm : Str → Option Addr) (W : WX) (es : List Keyword) (m : M (List D)) : Prop := PK X es (teG X.K cm (RepL X.K cm) W m)
abbrev Po (X : Cx) (cm : Str → Option Addr) (W : WX) (e : Option Expr) (m : M (Option Int)) : Prop := PO X e (teG X.K cm rEq W m)
abbrev Ps (X : Cx) (cm : Str → Option Addr) (W : WX) (st : Stmt) (m : MS) : Prop := PS X st (tsM X.K cm W m)
abbrev Pss (X : Cx) (cm : Str → Option Addr) (W : WX) (st : List Stmt) (m : MS) : Prop := PSs X st (tsM X.K cm W m)
theorem pe_imp {X : Cx} {e : Expr} {t t' : TE} (h : PE X e t) (k : ∀ σ H Q, t' σ H Q → t σ H Q) : PE X e t' := ⟨fun pins s σ H Q I q => h.run pins s σ H Q I (k σ H Q q)⟩
theorem pt_imp {X : Cx} {e : Expr} {t t' : TT} (h : PT X e t) (k : ∀ σ H Q, t' σ H Q → t σ H Q) : PT X e t' := ⟨fun pins s σ H Q I q => h.run pins s σ H Q I (k σ H Q q)⟩
theorem pw_imp {X : Cx} {e : Expr} {t t' : TT} (h : PW X e t) (k : ∀ σ H Q, t' σ H Q → t σ H Q) : PW X e t' := ⟨fun wh pins s σ H Q I q => h.run wh pins s σ H Q I (k σ H Q q)⟩
theorem pa_imp {X : Cx} {e : List Expr} {t t' : TA} (h : PA X e t) (k : ∀ σ H Q, t' σ H Q → t σ H Q) : PA X e t' := ⟨fun pos pins s σ H Q I q => h.run pos pins s σ H Q I (k σ H Q q)⟩
theorem pk_imp {X : Cx} {e : List Keyword} {t t' : TA} (h : PK X e t) (k : ∀ σ H Q, t' σ H Q → t σ H Q) : PK X e t' := ⟨fun pos pins s σ H Q I q => h.run pos pins s σ H Q I (k σ H Q q)⟩
theorem ps_imp {X : Cx} {e : Stmt} {t t' : TS} (h : PS X e t) (k : ∀ E σ H, t' E σ H → t E σ H) : PS X e t' := ⟨fun pins s σ H E I q => h.run pins s σ H E I (k E σ H q)⟩
theorem pss_imp {X : Cx} {e : List Stmt} {t t' : TS} (h : PSs X e t) (k : ∀ E σ H, t' E σ H → t E σ H) : PSs X e t' := ⟨fun pins s σ H E I q => h.run pins s σ H E I (k E σ H q)⟩

/-! the words -/
def mVar (i : Nat) : M D := fun env s => match env[i]? with
  | some (some d) => .ok d s
  | _ => .bad
def mC (d : D) : M D := fun _ s => .ok d s
def mNil : M (List D) := fun _ s => .ok [] s
def mCons (a : M D) (r : M (List D)) : M (List D) := fun env s => (a env s).bind fun d s => (r env s).bind fun ds s => .ok (d :: ds) s
abbrev Op2 := D → D → Sto → Res D
abbrev Op1 := D → Sto → Res D
abbrev OpL := List D → Sto → Res D
def mOp (o : Op2) (a b : M D) : M D := fun env s => (a env s).bind fun x s => (b env s).bind fun y s => o x y s
def mUn (o : Op1) (a : M D) : M D := fun env s => (a env s).bind fun x s => o x s
def mCall (o : OpL) (a : M (List D)) : M D := fun env s => (a env s).bind fun x s => o x s
def truD : D → Sto → Res Bool
  | .non, s => .ok false s
  | .bl b, s => .ok b s
  | .int i, s => .ok (i != 0) s
  | .str x, s => if x.length ≤ 1000000 then .ok ((x.length : Int) != 0) s else .bad
  | .lst xs, s => .ok (!xs.isEmpty) s
  | .tup xs, s => .ok (!xs.isEmpty) s
  | _, _ => .bad
def mTru (a : M D) : M Bool := fun env s => (a env s).bind truD
def mNot (a : M Bool) : M Bool := fun env s => (a env s).bind fun b s => .ok (!b) s
def mAnd (a b : M Bool) : M Bool := fun env s => (a env s).bind fun x s => if x = true then b env s else .ok false s
def mOr (a b : M Bool) : M Bool := fun env s => (a env s).bind fun x s => if x = true then .ok true s else b env s
def mIf (c : M Bool) (a b : M D) : M D := fun env s => (c env s).bind fun x s => if x = true then a env s else b env s
def mAndV (a b : M D) : M D := fun env s => (a env s).bind fun x s => (truD x s).bind fun k s => if k = true then b env s else .ok x s
def mOrV (a b : M D) : M D := fun env s => (a env s).bind fun x s => (truD x s).bind fun k s => if k = true then .ok x s else b env s
def mNotV (a : M D) : M D := fun env s => (a env s).bind fun x s => (truD x s).bind fun k s => .ok (.bl (!k)) s
def mTup (a : M (List D)) : M D := fun env s => (a env s).bind fun ds s => if ds.length ≤ 1000000 then .ok (.tup ds) s else .bad
/-- a new list: one that changes no more, one that may change -/
def mkL (mu : Bool) (ds : List D) (s : Sto) : Res D := if mu = true then (if D.pureL ds = true then .ok (.ref s.length) (s ++ [.lst ds]) else .bad) else .ok (.lst ds) s
def mLst (mu : Bool) (a : M (List D)) : M D := fun env s => (a env s).bind fun ds s => if ds.length ≤ 1000000 then mkL mu ds s else .bad

theorem small_line {n : Nat} (h : n ≤ 1000000) : n ≤ sizeLine := by rw [sizeLine_eq]; omega
section
variable {X : Cx} {cm : Str → Option Addr} {W : WX} {a b c e : Expr} {es rest : List Expr} {pos : Pos} {ma mb mc : M D}
theorem re_lst {K : PySem.W.Frag} {F H : Hp} {ι : Io} {s : Sto} {σ : L2.St} {ds : List D} {vs : List V} {mu : Bool} {Q : VK} (w : Wd K cm F ι s H) (r : RepL K cm F ι ds vs) (h : PostG K cm (Rep K cm) W F ι σ (mkL mu ds s) Q) : ∀ p, H p = none → Q (.ref p) (upd H p (.lst vs)) := fun p hp => by
  cases mu with
  | true =>
    unfold mkL at h
    rw [if_pos rfl] at h
    by_cases c : D.pureL ds = true
    · rw [if_pos c] at h
      refine h F _ _ _ .refl .app (w.new hp ⟨vs, rfl, r⟩ c) (.ref ?_)
      rw [List.getElem?_append_right (by rw [w.len]; exact Nat.le_refl _), w.len]
      simp
    · rw [if_neg c] at h
      exact h.elim
  | false =>
    have n := Le.new (o := .lst vs) (w.fresh hp)
    exact h _ _ _ _ n .refl (w.frz hp) (.lst (SqL.of upd_same) (r.mono n .refl))
theorem qe_var (i : Nat) {x : Str} {p : Pos} (h : PE X (.Name x p) (tVar i)) : Pe X cm W (.Name x p) (mVar i) := pe_imp h fun σ H Q ⟨F, ι, env, s, w, r, q⟩ => by
  unfold mVar at q
  cases e : env[i]? with
  | none => rw [e] at q; exact q.elim
  | some o =>
    cases o with
    | none => rw [e] at q; exact q.elim
    | some d =>
      rw [e] at q
      obtain ⟨v, h1, h2⟩ := r.2 i d e
      exact ⟨v, h1, q F ι H v .refl .refl w h2⟩
theorem qe_c {d : D} {v : V} (h : PE X e (tC v)) (r : ∀ F ι, Rep X.K cm F ι d v) : Pe X cm W e (mC d) := pe_imp h fun σ H Q ⟨F, ι, env, s, w, _, q⟩ => q F ι H v .refl .refl w (r F ι)
theorem qe_int {i : Int} {j : Nat} {p : Pos} : Pe X cm W (.Constant (.int i) j p) (mC (.int i)) := qe_c pe_int fun _ _ => .int _
theorem qe_bl {i : Bool} {j : Nat} {p : Pos} : Pe X cm W (.Constant (.bool i) j p) (mC (.bl i)) := qe_c pe_bl fun _ _ => .bl _
theorem qe_str {i : Str} {j : Nat} {p : Pos} : Pe X cm W (.Constant (.str i) j p) (mC (.str i)) := qe_c pe_str fun _ _ => .str _
theorem qe_non {j : Nat} {p : Pos} : Pe X cm W (.Constant .none j p) (mC .non) := qe_c pe_non fun _ _ => .non
theorem qa_nil : Pa X cm W [] mNil := pa_imp pa_nil fun σ H Q ⟨F, ι, env, s, w, _, q⟩ => q F ι H [] .refl .refl w .nil
theorem cons_imp {ma : M D} {mr : M (List D)} {σ : L2.St} {H : Hp} {Q : List V → Hp → Prop} (h : teG X.K cm (RepL X.K cm) W (mCons ma mr) σ H Q) : tCons (teG X.K cm (Rep X.K cm) W ma) (teG X.K cm (RepL X.K cm) W mr) σ H Q := by
  obtain ⟨F, ι, env, s, w, r, q⟩ := h
  refine ⟨F, ι, env, s, w, r, (PostG.split q).imp fun v H1 ⟨F1, ι1, d, s1, le, ge, w1, rd, q1⟩ => ?_⟩
  refine ⟨F1, ι1, env, s1, w1, r.mono le ge, (PostG.split q1).imp fun vs H2 ⟨F2, ι2, ds, s2, le2, ge2, w2, rds, q2⟩ => ?_⟩
  exact q2 F2 ι2 H2 _ .refl .refl w2 (.cons (rd.mono le2 ge2) rds)
theorem qa_cons {mr : M (List D)} (ha : Pe X cm W e ma) (hr : Pa X cm W es mr) (hs : starEach (e :: es) X.env = (false, eval e X.env) :: starEach es X.env := by rfl) : Pa X cm W (e :: es) (mCons ma mr) :=
  pa_imp (pa_cons ha hr hs) fun _ _ _ h => cons_imp h
theorem qk_nil : Pk X cm W [] mNil := pk_imp pk_nil fun σ H Q ⟨F, ι, env, s, w, _, q⟩ => q F ι H [] .refl .refl w .nil
theorem qk_cons {nm : Option Str} {kpos : Pos} {kws : List Keyword} {mr : M (List D)} (ha : Pe X cm W e ma) (hr : Pk X cm W kws mr) : Pk X cm W (⟨nm, e, kpos⟩ :: kws) (mCons ma mr) :=
  pk_imp (pk_cons ha hr) fun _ _ _ h => cons_imp h
theorem qe_tup {k : Nat} {m : M (List D)} (h : Pa X cm W es m) : Pe X cm W (.Tuple es k pos) (mTup m) := pe_imp (pe_tup h) fun σ H Q ⟨F, ι, env, s, w, r, q⟩ => by
  refine ⟨F, ι, env, s, w, r, (PostG.split q).imp fun vs H1 ⟨F1, ι1, ds, s1, le, ge, w1, rd, q1⟩ => ?_⟩
  by_cases c : ds.length ≤ 1000000
  · rw [if_pos c] at q1
    refine ⟨by rw [← rd.length]; exact small_line c, fun p hp => ?_⟩
    have n := Le.new (o := .tup vs) (w1.fresh hp)
    exact q1 _ _ _ _ n .refl (w1.frz hp) (.tup (SqT.of upd_same) (rd.mono n .refl))
  · rw [if_neg c] at q1; exact q1.elim
theorem qe_lst (mu : Bool) {m : M (List D)} (h : Pa X cm W es m) : Pe X cm W (.List es pos) (mLst mu m) := pe_imp (pe_lst h) fun σ H Q ⟨F, ι, env, s, w, r, q⟩ => by
  refine ⟨F, ι, env, s, w, r, (PostG.split q).imp fun vs H1 ⟨F1, ι1, ds, s1, le, ge, w1, rd, q1⟩ => ?_⟩
  by_cases c : ds.length ≤ 1000000
  · rw [if_pos c] at q1
    exact ⟨by rw [← rd.length]; exact small_line c, re_lst w1 rd q1⟩
  · rw [if_neg c] at q1; exact q1.elim

/-! operations by values -/
def rO (K : PySem.W.Frag) (cm : Str → Option Addr) (W : WX) (o : Op2) : R2 := fun x y H Q => ∃ F ι σ a b s, Wd K cm F ι s H ∧ Rep K cm F ι a x ∧ Rep K cm F ι b y ∧ PostG K cm (Rep K cm) W F ι σ (o a b s) Q
abbrev OpS (X : Cx) (cm : Str → Option Addr) (W : WX) (f : Value → Value → Sem Value) (o : Op2) : Prop := OpR X f (rO X.K cm W o)
def rU1 (K : PySem.W.Frag) (cm : Str → Option Addr) (W : WX) (o : Op1) : V → Hp → VK → Prop := fun x H Q => ∃ F ι σ a s, Wd K cm F ι s H ∧ Rep K cm F ι a x ∧ PostG K cm (Rep K cm) W F ι σ (o a s) Q
def rC1 (K : PySem.W.Frag) (cm : Str → Option Addr) (W : WX) (o : OpL) : List V → Hp → VK → Prop := fun x H Q => ∃ F ι σ a s, Wd K cm F ι s H ∧ RepL K cm F ι a x ∧ PostG K cm (Rep K cm) W F ι σ (o a s) Q
theorem op_imp {o : Op2} {K : PySem.W.Frag} {σ : L2.St} {H : Hp} {Q : VK} (h : teG K cm (Rep K cm) W (mOp o ma mb) σ H Q) : tOp (rO K cm W o) (teG K cm (Rep K cm) W ma) (teG K cm (Rep K cm) W mb) σ H Q := by
  obtain ⟨F, ι, env, s, w, r, q⟩ := h
  refine ⟨F, ι, env, s, w, r, (PostG.split q).imp fun v H1 ⟨F1, ι1, d, s1, le, ge, w1, rd, q1⟩ => ?_⟩
  refine ⟨F1, ι1, env, s1, w1, r.mono le ge, (PostG.split q1).imp fun u H2 ⟨F2, ι2, d2, s2, le2, ge2, w2, rd2, q2⟩ => ?_⟩
  exact ⟨F2, ι2, σ, d, d2, s2, w2, rd.mono le2 ge2, rd2, q2⟩
theorem qe_op {op : Operator} {o : Op2} (ho : OpS X cm W (binaryOp op) o) (ha : Pe X cm W a ma) (hb : Pe X cm W b mb) : Pe X cm W (.BinOp a op b pos) (mOp o ma mb) := pe_imp (pe_op ho ha hb) fun _ _ _ h => op_imp h
theorem qe_cmp {op : CmpOp} {o : Op2} (ho : OpS X cm W (compareOp op) o) (ha : Pe X cm W a ma) (hb : Pe X cm W b mb) (hm : behindInMarks op b = false := by first | exact nobehind _ (by decide) (by decide) | rfl) : Pe X cm W (.Compare a [op] [b] pos) (mOp o ma mb) := pe_imp (pe_cmpR ho ha hb hm) fun _ _ _ h => op_imp h
theorem qe_ix {o : Op2} (ho : IxR X (rO X.K cm W o)) (ha : Pe X cm W a ma) (hb : Pe X cm W b mb) (hs : PlainIx b := by exact fun _ _ => rfl) : Pe X cm W (.Subscript a b pos) (mOp o ma mb) := pe_imp (pe_ix ho ha hb hs) fun _ _ _ h => op_imp h
theorem un_imp {o : Op1} {K : PySem.W.Frag} {σ : L2.St} {H : Hp} {Q : VK} (h : teG K cm (Rep K cm) W (mUn o ma) σ H Q) : tUn (rU1 K cm W o) (teG K cm (Rep K cm) W ma) σ H Q := by
  obtain ⟨F, ι, env, s, w, r, q⟩ := h
  exact ⟨F, ι, env, s, w, r, (PostG.split q).imp fun v H1 ⟨F1, ι1, d, s1, le, ge, w1, rd, q1⟩ => ⟨F1, ι1, σ, d, s1, w1, rd, q1⟩⟩
theorem qe_un {op : UnaryOp} {o : Op1} (ho : UnR X (unaryOp op) (rU1 X.K cm W o)) (ha : Pe X cm W a ma) : Pe X cm W (.UnaryOp op a pos) (mUn o ma) := pe_imp (pe_un ho ha) fun _ _ _ h => un_imp h
theorem call_imp {o : OpL} {m : M (List D)} {K : PySem.W.Frag} {σ : L2.St} {H : Hp} {Q : VK} (h : teG K cm (Rep K cm) W (mCall o m) σ H Q) : tCB (rC1 K cm W o) (teG K cm (RepL K cm) W m) σ H Q := by
  obtain ⟨F, ι, env, s, w, r, q⟩ := h
  exact ⟨F, ι, env, s, w, r, (PostG.split q).imp fun v H1 ⟨F1, ι1, d, s1, le, ge, w1, rd, q1⟩ => ⟨F1, ι1, σ, d, s1, w1, rd, q1⟩⟩
/-- f(e, ..), f a built-in -/
theorem qe_callB {id : String} {x : Str} {p : Pos} {o : OpL} {m : M (List D)} (hc : CallR X (.builtin id) (rC1 X.K cm W o)) (hm : X.mg x = none) (hv : bootBuiltins x = some (.builtin id)) (ha : Pa X cm W (e :: es) m) (hg : Gl X x := by rfl) (hn : x ≠ "__name__" := by decide) (hdb : (x == ("__debug__" : Str)) = false := by decide)
    (he : starEach (e :: es) X.env = (false, eval e X.env) :: starEach es X.env := by rfl) (hpl : (backTo pos (starEach es X.env)).any (·.1) = false := by rfl) : Pe X cm W (.Call (.Name x p) (e :: es) [] pos) (mCall o m) := pe_imp (pe_callB hc hg hm hv ha hn hdb he hpl) fun _ _ _ h => call_imp h
theorem qe_callTy {T : String} {x : Str} {p : Pos} {o : OpL} {m : M (List D)} (hc : CallR X (.type T) (rC1 X.K cm W o)) (hm : X.mg x = none) (hv : bootBuiltins x = some (.type T)) (ha : Pa X cm W (e :: es) m) (hg : Gl X x := by rfl) (hn : x ≠ "__name__" := by decide) (hdb : (x == ("__debug__" : Str)) = false := by decide)
    (he : starEach (e :: es) X.env = (false, eval e X.env) :: starEach es X.env := by rfl) (hpl : (backTo pos (starEach es X.env)).any (·.1) = false := by rfl) : Pe X cm W (.Call (.Name x p) (e :: es) [] pos) (mCall o m) := pe_imp (pe_callTy hc hg hm hv ha hn hdb he hpl) fun _ _ _ h => call_imp h
/-! truth -/
theorem tru_of {K : PySem.W.Frag} {F H : Hp} {ι : Io} {s : Sto} {σ : L2.St} {d : D} {x : V} {Q : Bool → Hp → Prop} (w : Wd K cm F ι s H) (r : Rep K cm F ι d x) (h : PostG K cm rEq W F ι σ (truD d s) Q) : ∃ k, TruV K x H k ∧ Q k H := by
  cases r with
  | non => exact ⟨false, rfl, h F ι H _ .refl .refl w rfl⟩
  | bl b => exact ⟨b, rfl, h F ι H _ .refl .refl w rfl⟩
  | int i => exact ⟨_, rfl, h F ι H _ .refl .refl w rfl⟩
  | str y =>
    unfold truD at h
    by_cases c : y.length ≤ 1000000
    · simp only [c, if_true] at h
      exact ⟨_, ⟨small_line c, rfl⟩, h F ι H _ .refl .refl w rfl⟩
    · simp only [c, if_false] at h
      exact h.elim
  | ty n => exact h.elim
  | cls _ => exact h.elim
  | ref _ => exact h.elim
  | tup hq hl =>
    refine ⟨_, .inr (.inl ⟨_, Le.t w.sub hq, rfl⟩), ?_⟩
    refine h F ι H _ .refl .refl w ?_
    cases hl <;> rfl
  | lst hq hl =>
    refine ⟨_, .inl ⟨_, Le.l w.sub hq, rfl⟩, ?_⟩
    refine h F ι H _ .refl .refl w ?_
    cases hl <;> rfl
  | ins _ _ _ => exact h.elim
  | xcl _ => exact h.elim
  | exn0 _ => exact h.elim
  | exn _ _ _ => exact h.elim
theorem qt_val (ha : Pe X cm W a ma) (he : ∀ whole, isTrue a X.env whole = (do let v ← whole; standAt a.pos; holding [v] (truthy v)) := by intro _; rfl) : Pt X cm W a (mTru ma) := pt_imp (pt_truth ha he) fun σ H Q ⟨F, ι, env, s, w, r, q⟩ =>
  ⟨F, ι, env, s, w, r, (PostG.split q).imp fun v H1 ⟨F1, ι1, d, s1, le, ge, w1, rd, q1⟩ => tru_of w1 rd q1⟩
def mTruB (a : M D) : M Bool := fun env s => (a env s).bind fun d s => match d with
  | .bl b => .ok b s
  | _ => .bad
theorem qt_cmp {op : CmpOp} {o : Op2} (ho : OpS X cm W (compareOp op) o) (ha : Pe X cm W a ma) (hb : Pe X cm W b mb) (hm : behindInMarks op b = false := by first | exact nobehind _ (by decide) (by decide) | rfl) : Pt X cm W (.Compare a [op] [b] pos) (mTruB (mOp o ma mb)) := pt_imp (pt_cmpR ho ha hb hm) fun σ H Q ⟨F, ι, env, s, w, r, q⟩ => by
  refine op_imp (W := W) ⟨F, ι, env, s, w, r, (PostG.split q).imp fun v H1 ⟨F1, ι1, d, s1, le, ge, w1, rd, q1⟩ => ?_⟩
  cases rd with
  | bl k => exact ⟨k, rfl, q1 F1 ι1 H1 _ .refl .refl w1 rfl⟩
  | _ => exact q1.elim
end
end PM
end

/-! PmC -/
section
set_option Elab.async false
set_option linter.all false
set_option maxRecDepth 100000
set_option maxHeartbeats 4000000
/-! ### tests, calls of own defs, slices, fields -/
namespace PM
open PySem L2
section
variable {X : Cx} {cm : Str → Option Addr} {W : WX} {a b c e : Expr} {es rest : List Expr} {pos : Pos} {ma mb mc : M D} {na nb nc : M Bool}
theorem qt_not (h : Pt X cm W a na) : Pt X cm W (.UnaryOp .Not a pos) (mNot na) := pt_imp (pt_not h) fun σ H Q ⟨F, ι, env, s, w, r, q⟩ =>
  ⟨F, ι, env, s, w, r, (PostG.split (R := rEq) q).imp fun v H1 ⟨F1, ι1, d, s1, le, ge, w1, rd, q1⟩ => q1 F1 ι1 H1 _ .refl .refl w1 (by rw [show v = d from rd])⟩
theorem qt_pw (h : Pw X cm W e na) : Pt X cm W e na := PW.pt h
theorem qw_and1 (h : Pt X cm W a na) : Pw X cm W (.BoolOp .And [a] pos) na := pw_and1 h
theorem qw_or1 (h : Pt X cm W a na) : Pw X cm W (.BoolOp .Or [a] pos) na := pw_or1 h
theorem qw_and (ha : Pt X cm W a na) (hb : Pw X cm W (.BoolOp .And (b :: rest) pos) nb) : Pw X cm W (.BoolOp .And (a :: b :: rest) pos) (mAnd na nb) := pw_imp (pw_and ha hb) fun σ H Q ⟨F, ι, env, s, w, r, q⟩ =>
  ⟨F, ι, env, s, w, r, (PostG.split (R := rEq) q).imp fun v H1 ⟨F1, ι1, d, s1, le, ge, w1, rd, q1⟩ => by
    obtain rfl : v = d := rd
    cases v with
    | true => rw [if_pos rfl] at q1 ⊢; exact ⟨F1, ι1, env, s1, w1, r.mono le ge, q1⟩
    | false => rw [if_neg Bool.false_ne_true] at q1 ⊢; exact q1 F1 ι1 H1 _ .refl .refl w1 rfl⟩
theorem qw_or (ha : Pt X cm W a na) (hb : Pw X cm W (.BoolOp .Or (b :: rest) pos) nb) : Pw X cm W (.BoolOp .Or (a :: b :: rest) pos) (mOr na nb) := pw_imp (pw_or ha hb) fun σ H Q ⟨F, ι, env, s, w, r, q⟩ =>
  ⟨F, ι, env, s, w, r, (PostG.split (R := rEq) q).imp fun v H1 ⟨F1, ι1, d, s1, le, ge, w1, rd, q1⟩ => by
    obtain rfl : v = d := rd
    cases v with
    | true => rw [if_pos rfl] at q1 ⊢; exact q1 F1 ι1 H1 _ .refl .refl w1 rfl
    | false => rw [if_neg Bool.false_ne_true] at q1 ⊢; exact ⟨F1, ι1, env, s1, w1, r.mono le ge, q1⟩⟩
theorem qe_if (hc : Pt X cm W c nc) (ha : Pe X cm W a ma) (hb : Pe X cm W b mb) : Pe X cm W (.IfExp c a b pos) (mIf nc ma mb) := pe_imp (pe_ifExp hc ha hb) fun σ H Q ⟨F, ι, env, s, w, r, q⟩ =>
  ⟨F, ι, env, s, w, r, (PostG.split (R := rEq) q).imp fun v H1 ⟨F1, ι1, d, s1, le, ge, w1, rd, q1⟩ => by
    obtain rfl : v = d := rd
    cases v with
    | true => rw [if_pos rfl] at q1 ⊢; exact ⟨F1, ι1, env, s1, w1, r.mono le ge, q1⟩
    | false => rw [if_neg Bool.false_ne_true] at q1 ⊢; exact ⟨F1, ι1, env, s1, w1, r.mono le ge, q1⟩⟩
theorem qe_one {op : PySem.BoolOp} (h : Pe X cm W a ma) : Pe X cm W (.BoolOp op [a] pos) ma := pe_one h
/-- a value, then its truth -/
theorem tru_then {K : PySem.W.Frag} {F H : Hp} {ι : Io} {s : Sto} {σ : L2.St} {d : D} {x : V} {k : Bool → Sto → Res D} {Q : VK} (w : Wd K cm F ι s H) (r : Rep K cm F ι d x) (h : PostG K cm (Rep K cm) W F ι σ ((truD d s).bind k) Q) :
    ∃ t, TruV K x H t ∧ PostG K cm (Rep K cm) W F ι σ (k t s) Q := by
  cases e : truD d s with
  | ok t s' =>
    have es : s' = s := by
      unfold truD at e
      split at e <;> first | (cases e; rfl) | (split at e <;> cases e; rfl) | cases e
    subst es
    rw [e] at h
    have q : PostG K cm rEq W F ι σ (truD d s') (fun b H' => b = t ∧ H' = H) ∨ True := .inr trivial
    obtain ⟨k', h1, h2⟩ := tru_of (W := W) (σ := σ) (Q := fun b _ => b = t) w r (by
      rw [e]
      intro F' ι' H' b _ _ _ eb
      exact eb)
    subst h2
    exact ⟨k', h1, h⟩
  | exc x s' =>
    unfold truD at e
    split at e <;> first | cases e | (split at e <;> cases e)
  | bad => rw [e] at h; exact False.elim h
theorem qe_and (ha : Pe X cm W a ma) (hb : Pe X cm W (.BoolOp .And (b :: rest) pos) mb) : Pe X cm W (.BoolOp .And (a :: b :: rest) pos) (mAndV ma mb) := pe_imp (pe_andT ha hb) fun σ H Q ⟨F, ι, env, s, w, r, q⟩ =>
  ⟨F, ι, env, s, w, r, (PostG.split (R := Rep X.K cm) q).imp fun v H1 ⟨F1, ι1, d, s1, le, ge, w1, rd, q1⟩ => by
    obtain ⟨t, h1, h2⟩ := tru_then w1 rd q1
    refine ⟨t, h1, ?_⟩
    cases t with
    | true => rw [if_pos rfl] at h2 ⊢; exact ⟨F1, ι1, env, s1, w1, r.mono le ge, h2⟩
    | false => rw [if_neg Bool.false_ne_true] at h2 ⊢; exact h2 F1 ι1 H1 _ .refl .refl w1 rd⟩
theorem qe_or (ha : Pe X cm W a ma) (hb : Pe X cm W (.BoolOp .Or (b :: rest) pos) mb) : Pe X cm W (.BoolOp .Or (a :: b :: rest) pos) (mOrV ma mb) := pe_imp (pe_orT ha hb) fun σ H Q ⟨F, ι, env, s, w, r, q⟩ =>
  ⟨F, ι, env, s, w, r, (PostG.split (R := Rep X.K cm) q).imp fun v H1 ⟨F1, ι1, d, s1, le, ge, w1, rd, q1⟩ => by
    obtain ⟨t, h1, h2⟩ := tru_then w1 rd q1
    refine ⟨t, h1, ?_⟩
    cases t with
    | true => rw [if_pos rfl] at h2 ⊢; exact h2 F1 ι1 H1 _ .refl .refl w1 rd
    | false => rw [if_neg Bool.false_ne_true] at h2 ⊢; exact ⟨F1, ι1, env, s1, w1, r.mono le ge, h2⟩⟩
theorem qe_not (ha : Pe X cm W a ma) : Pe X cm W (.UnaryOp .Not a pos) (mNotV ma) := pe_imp (pe_notT ha) fun σ H Q ⟨F, ι, env, s, w, r, q⟩ =>
  ⟨F, ι, env, s, w, r, (PostG.split (R := Rep X.K cm) q).imp fun v H1 ⟨F1, ι1, d, s1, le, ge, w1, rd, q1⟩ => by
    obtain ⟨t, h1, h2⟩ := tru_then w1 rd q1
    exact ⟨t, h1, h2 F1 ι1 H1 _ .refl .refl w1 (.bl _)⟩⟩
/-! a < b < c -/
def mChain (o o' : Op2) (a b c : M D) : M D := fun env s => (a env s).bind fun x s => (b env s).bind fun y s => (o x y s).bind fun z s => match z with
  | .bl true => (c env s).bind fun u s => o' y u s
  | .bl false => .ok (.bl false) s
  | _ => .bad
theorem qe_chain {op op' : CmpOp} {o o' : Op2} (ho : OpS X cm W (compareOp op) o) (ho' : OpS X cm W (compareOp op') o') (ha : Pe X cm W a ma) (hb : Pe X cm W b mb) (hc : Pe X cm W c mc)
    (h1 : lastMarks [op, op'] [b, c] = false := by with_unfolding_all rfl) : Pe X cm W (.Compare a [op, op'] [b, c] pos) (mChain o o' ma mb mc) := pe_imp (pe_chain ho ho' ha hb hc h1) fun σ H Q ⟨F, ι, env, s, w, r, q⟩ => by
  refine ⟨F, ι, env, s, w, r, (PostG.split q).imp fun x H1 ⟨F1, ι1, d1, s1, le1, ge1, w1, r1, q1⟩ => ?_⟩
  refine ⟨F1, ι1, env, s1, w1, r.mono le1 ge1, (PostG.split q1).imp fun y H2 ⟨F2, ι2, d2, s2, le2, ge2, w2, r2, q2⟩ => ?_⟩
  refine ⟨F2, ι2, σ, d1, d2, s2, w2, r1.mono le2 ge2, r2, (PostG.split q2).imp fun z H3 ⟨F3, ι3, d3, s3, le3, ge3, w3, r3, q3⟩ => ?_⟩
  cases r3 with
  | bl k =>
    refine ⟨k, rfl, ?_⟩
    cases k with
    | true =>
      rw [if_pos rfl]
      refine ⟨F3, ι3, env, s3, w3, (r.mono (le1.trans le2) (ge1.trans ge2)).mono le3 ge3, (PostG.split q3).imp fun u H4 ⟨F4, ι4, d4, s4, le4, ge4, w4, r4, q4⟩ => ?_⟩
      exact ⟨F4, ι4, σ, d2, d4, s4, w4, r2.mono (le3.trans le4) (ge3.trans ge4), r4, q4⟩
    | false =>
      rw [if_neg Bool.false_ne_true]
      exact q3 F3 ι3 H3 _ .refl .refl w3 (.bl _)
  | _ => exact q3.elim
theorem qt_of_bl (h : Pe X cm W a ma) (he : ∀ whole, isTrue a X.env whole = (do let v ← whole; standAt a.pos; holding [v] (truthy v)) := by intro _; rfl) : Pt X cm W a (mTru ma) := qt_val h he
theorem qt_chain {op op' : CmpOp} {o o' : Op2} (ho : OpS X cm W (compareOp op) o) (ho' : OpS X cm W (compareOp op') o') (ha : Pe X cm W a ma) (hb : Pe X cm W b mb) (hc : Pe X cm W c mc)
    (h1 : lastMarks [op, op'] [b, c] = false := by with_unfolding_all rfl) : Pt X cm W (.Compare a [op, op'] [b, c] pos) (mTruB (mChain o o' ma mb mc)) := pt_imp (pt_chain ho ho' ha hb hc h1) fun σ H Q ⟨F, ι, env, s, w, r, q⟩ => by
  have q : PostG X.K cm (Rep X.K cm) W F ι σ (mChain o o' ma mb mc env s) (fun x H' => ∃ k, x = .bl k ∧ Q k H') := (PostG.split q).imp fun v H1 ⟨F1, ι1, d, s1, le, ge, w1, rd, q1⟩ => by
    cases rd with
    | bl k => exact ⟨k, rfl, q1 F1 ι1 H1 _ .refl .refl w1 rfl⟩
    | _ => exact q1.elim
  refine ⟨F, ι, env, s, w, r, (PostG.split q).imp fun x H1 ⟨F1, ι1, d1, s1, le1, ge1, w1, r1, q1⟩ => ?_⟩
  refine ⟨F1, ι1, env, s1, w1, r.mono le1 ge1, (PostG.split q1).imp fun y H2 ⟨F2, ι2, d2, s2, le2, ge2, w2, r2, q2⟩ => ?_⟩
  refine ⟨F2, ι2, σ, d1, d2, s2, w2, r1.mono le2 ge2, r2, (PostG.split q2).imp fun z H3 ⟨F3, ι3, d3, s3, le3, ge3, w3, r3, q3⟩ => ?_⟩
  cases r3 with
  | bl k =>
    refine ⟨k, rfl, ?_⟩
    cases k with
    | true =>
      rw [if_pos rfl]
      refine ⟨F3, ι3, env, s3, w3, (r.mono (le1.trans le2) (ge1.trans ge2)).mono le3 ge3, (PostG.split q3).imp fun u H4 ⟨F4, ι4, d4, s4, le4, ge4, w4, r4, q4⟩ => ?_⟩
      exact ⟨F4, ι4, σ, d2, d4, s4, w4, r2.mono (le3.trans le4) (ge3.trans ge4), r4, q4⟩
    | false =>
      rw [if_neg Bool.false_ne_true]
      obtain ⟨k, e, h⟩ := q3 F3 ι3 H3 _ .refl .refl w3 (.bl _)
      cases e
      exact ⟨_, rfl, h⟩
  | _ => exact q3.elim

/-! ### slices -/
def mPart (a : M D) : M (Option Int) := fun env s => (a env s).bind fun d s => match d with
  | .int i => .ok (some i) s
  | _ => .bad
def mNoPart : M (Option Int) := fun _ s => .ok none s
abbrev OpSl := D → Option Int → Option Int → Sto → Res D
def mSl (o : OpSl) (a : M D) (l u : M (Option Int)) : M D := fun env s => (a env s).bind fun d s => (l env s).bind fun l s => (u env s).bind fun u s => o d l u s
def rS1 (K : PySem.W.Frag) (cm : Str → Option Addr) (W : WX) (o : OpSl) : V → Option Int → Option Int → Hp → VK → Prop := fun x l u H Q => ∃ F ι σ a s, Wd K cm F ι s H ∧ Rep K cm F ι a x ∧ PostG K cm (Rep K cm) W F ι σ (o a l u s) Q
theorem qo_none : Po X cm W none mNoPart := ⟨fun pins s σ H Q I ⟨F, ι, env, st, w, r, q⟩ => po_none.run pins s σ H Q I (q F ι H _ .refl .refl w rfl)⟩
theorem qo_some (h : Pe X cm W e ma) : Po X cm W (some e) (mPart ma) := ⟨fun pins s σ H Q I ⟨F, ι, env, st, w, r, q⟩ => (po_some h).run pins s σ H Q I ⟨F, ι, env, st, w, r, (PostG.split q).imp fun v H1 ⟨F1, ι1, d, s1, le, ge, w1, rd, q1⟩ => by
    cases rd with
    | int i => exact ⟨i, rfl, q1 F1 ι1 H1 _ .refl .refl w1 rfl⟩
    | _ => exact q1.elim⟩⟩
theorem qe_sl {lo hi : Option Expr} {ml mh : M (Option Int)} {p2 : Pos} {o : OpSl} (ho : SlR X (rS1 X.K cm W o)) (he : Pe X cm W e ma) (hl : Po X cm W lo ml) (hh : Po X cm W hi mh) : Pe X cm W (.Subscript e (.Slice lo hi none p2) pos) (mSl o ma ml mh) := pe_imp (pe_slice ho he hl hh) fun σ H Q ⟨F, ι, env, s, w, r, q⟩ => by
  refine ⟨F, ι, env, s, w, r, (PostG.split q).imp fun x H1 ⟨F1, ι1, d1, s1, le1, ge1, w1, r1, q1⟩ => ?_⟩
  refine ⟨F1, ι1, env, s1, w1, r.mono le1 ge1, (PostG.split (R := rEq) q1).imp fun y H2 ⟨F2, ι2, d2, s2, le2, ge2, w2, r2, q2⟩ => ?_⟩
  refine ⟨F2, ι2, env, s2, w2, (r.mono le1 ge1).mono le2 ge2, (PostG.split (R := rEq) q2).imp fun z H3 ⟨F3, ι3, d3, s3, le3, ge3, w3, r3, q3⟩ => ?_⟩
  obtain rfl : y = d2 := r2
  obtain rfl : z = d3 := r3
  exact ⟨F3, ι3, σ, d1, s3, w3, r1.mono (le2.trans le3) (ge2.trans ge3), q3⟩

/-! ### fields -/
def fld (f : Str) : Op1 := fun d s => match d with
  | .ins _ fs => (match fs.lookup f with
    | some v => .ok v s
    | none => .bad)
  | .ref n => (match s[n]? with
    | some (.ins _ fs) => (match fs.lookup f with
      | some v => .ok v s
      | none => .bad)
    | _ => .bad)
  | _ => .bad
/-- a class's fields may be read -/
def FldOk (K : PySem.W.Frag) (cm : Str → Option Addr) (f : Str) : Prop := ∀ c C, cm c = some C → Cls K C ∧ NoAttr K C f
theorem qe_fld {f : Str} (hf : FldOk X.K cm f) (he : Pe X cm W e ma) (hb : attributeBase e f X.env (eval e X.env) = eval e X.env := by rfl) : Pe X cm W (.Attribute e f pos) (mUn (fld f) ma) := pe_imp (pe_fld he hb) fun σ H Q ⟨F, ι, env, s, w, r, q⟩ =>
  ⟨F, ι, env, s, w, r, (PostG.split q).imp fun v H1 ⟨F1, ι1, d, s1, le, ge, w1, rd, q1⟩ => by
    cases rd with
    | @ins a C dx c gs fs h1 h2 h3 =>
      unfold fld at q1
      cases el : fs.lookup f with
      | none => simp only [el] at q1; exact q1.elim
      | some d =>
        simp only [el] at q1
        obtain ⟨u, eu, ru⟩ := h3.lookup el
        exact ⟨a, C, dx, gs, u, rfl, w1.sub _ _ h2, (hf _ _ h1).1, (hf _ _ h1).2, eu, q1 F1 ι1 H1 _ .refl .refl w1 ru⟩
    | @ref n a h1 =>
      unfold fld at q1
      cases es : s1[n]? with
      | none => simp only [es] at q1; exact q1.elim
      | some o =>
        cases o with
        | lst _ => simp only [es] at q1; exact q1.elim
        | ins c fs =>
          simp only [es] at q1
          obtain ⟨C, dx, gs, e1, e2, h3⟩ := w1.cur n _ a es h1
          cases el : fs.lookup f with
          | none => simp only [el] at q1; exact q1.elim
          | some d =>
            simp only [el] at q1
            obtain ⟨u, eu, ru⟩ := h3.lookup el
            exact ⟨a, C, dx, gs, u, rfl, e1, (hf _ _ e2).1, (hf _ _ e2).2, eu, q1 F1 ι1 H1 _ .refl .refl w1 ru⟩
    | _ => exact q1.elim⟩
end

/-! ### what a def promises -/
def PostC (K : PySem.W.Frag) (cm : Str → Option Addr) (F : Hp) (ι : Io) (r : Res D) (Q : VK) (E : XK) : Prop := PostG K cm (Rep K cm) (fun c d _ H => E c d H) F ι [] r Q
def spM (K : PySem.W.Frag) (cm : Str → Option Addr) (n : Nat) (f : FM) : Sp := fun vs H Q E => vs.length = n ∧ ∃ F ι ds s, Wd K cm F ι s H ∧ RepL K cm F ι ds vs ∧ PostC K cm F ι (f ds s) Q E
/-- the def x of the text, its statement st, computes f: at most k calls within one another -/
structure FnD (P : Program) (w : World) (K : PySem.W.Frag) (mg : Str → Option Value) (base : Heap) (cm : Str → Option Addr) (x : Str) (st : Stmt) (ps : List Str) (k : Nat) (f : FM) : Prop where
  ex : ∃ a fd, FunD K x x (defArgs st) (defBody st) (defScope st) [] [] a fd ∧ FnOk P w K mg base (L2.CX P w) k a fd ps (spM K cm ps.length f) ∧ mg x = some (.ref a)
def permL {α : Type} (ix : List Nat) (l : List α) : List α := ix.filterMap fun i => l[i]?
def mKw (ix : List Nat) (f : FM) (a k : M (List D)) : M D := fun env s => (a env s).bind fun ds s => (k env s).bind fun es s => f (permL ix (ds ++ es)) s
theorem Vals.perm {vs : List V} {us : List Value} (r : Vals vs us) : ∀ ix : List Nat, Vals (permL ix vs) (permL ix us)
  | [] => .nil
  | i :: ix => by
    have t := Vals.perm r ix
    unfold permL at t ⊢
    rw [List.filterMap_cons, List.filterMap_cons]
    cases e : vs[i]? with
    | none => rw [r.none_of e]; exact t
    | some v => obtain ⟨u, h1, h2⟩ := r.get e; rw [h1]; exact .cons h2 t
theorem RepL.perm {K : PySem.W.Frag} {cm : Str → Option Addr} {F : Hp} {ι : Io} {ds : List D} {vs : List V} (r : RepL K cm F ι ds vs) : ∀ ix : List Nat, RepL K cm F ι (permL ix ds) (permL ix vs)
  | [] => .nil
  | i :: ix => by
    have t := RepL.perm r ix
    unfold permL at t ⊢
    rw [List.filterMap_cons, List.filterMap_cons]
    cases e : ds[i]? with
    | none =>
      have : vs[i]? = none := by
        rw [List.getElem?_eq_none_iff] at e ⊢
        rw [← r.length]; exact e
      rw [this]; exact t
    | some v => obtain ⟨u, h1, h2⟩ := r.get e; rw [h1]; exact .cons h2 t
section
variable {X : Cx} {cm : Str → Option Addr} {W : WX} {e : Expr} {es : List Expr} {pos : Pos} {m mk : M (List D)} {x : Str} {p : Pos} {st : Stmt} {ps : List Str} {k : Nat} {f : FM}
theorem PostG.call {K : PySem.W.Frag} {F : Hp} {ι : Io} {σ : L2.St} {r : Res D} {Q : VK} (h : PostG K cm (Rep K cm) W F ι σ r Q) : PostC K cm F ι r Q (WE W σ) := by
  cases r with
  | ok => exact h
  | exc => exact h
  | bad => exact h
/-- f(e, ..) -/
theorem qe_call (hF : FnD X.prog X.w X.K X.mg X.base cm x st ps k f) (hr : Room k X.A) (tk : Takes X W) (ha : Pa X cm W (e :: es) m)
    (hb : ∀ (kV doc pm : Value) (an : Option Addr) (cdv ct : Value) (us : List Value), us.length = ps.length → bindArgs (PySem.W.fnOf x x (defArgs st) (defBody st) (defScope st) .none kV doc pm an cdv ct) ⟨us, []⟩ = pure (ps.zip us))
    (hlen : ∀ env s ds s', m env s = .ok ds s' → ds.length = ps.length)
    (hg : Gl X x := by rfl) (hdb : (x == ("__debug__" : Str)) = false := by decide) (he : starEach (e :: es) X.env = (false, eval e X.env) :: starEach es X.env := by rfl) (hpl : (backTo pos (starEach es X.env)).any (·.1) = false := by rfl) :
    Pe X cm W (.Call (.Name x p) (e :: es) [] pos) (mCall f m) := by
  obtain ⟨a, fd, F1, F2, hm⟩ := hF.ex
  refine pe_imp (pe_callS F2 hr hg hm F1.kp (F1.bindsN hb) (fun σ => passAt tk σ) ha hdb he hpl) fun σ H Q ⟨F, ι, env, s, w, r, q⟩ => ?_
  have hl := hlen env s
  refine ⟨F, ι, env, s, w, r, ?_⟩
  unfold mCall at q
  cases e1 : m env s with
  | ok ds s1 =>
    rw [e1] at q
    intro F1 ι1 H1 vs le ge w1 rd
    exact ⟨by rw [← rd.length]; exact hl _ _ e1, F1, ι1, ds, s1, w1, rd, PostG.call (PostG.mono le ge q)⟩
  | exc x s1 => rw [e1] at q; exact q
  | bad => rw [e1] at q; exact q
theorem kw_imp {K : PySem.W.Frag} {f : FM} {ix : List Nat} {σ : L2.St} {H : Hp} {Q : VK} (h : teG K cm (Rep K cm) W (mKw ix f m mk) σ H Q) (hl : ∀ env s ds s', m env s = .ok ds s' → ∀ es s'', mk env s' = .ok es s'' → ds.length = n ∧ es.length = j) :
    teG K cm (RepL K cm) W m σ H fun vs H1 => teG K cm (RepL K cm) W mk σ H1 fun zs H2 => vs.length = n ∧ zs.length = j ∧ ∃ F ι ds s, Wd K cm F ι s H2 ∧ RepL K cm F ι ds (permL ix (vs ++ zs)) ∧ PostC K cm F ι (f ds s) Q (WE W σ) := by
  obtain ⟨F, ι, env, s, w, r, q⟩ := h
  refine ⟨F, ι, env, s, w, r, ?_⟩
  unfold mKw at q
  cases e1 : m env s with
  | ok ds s1 =>
    rw [e1] at q
    intro F1 ι1 H1 vs le ge w1 rd
    refine ⟨F1, ι1, env, s1, w1, r.mono le ge, ?_⟩
    have q := PostG.mono le ge q
    simp only [Res.bind] at q
    cases e2 : mk env s1 with
    | ok zs s2 =>
      rw [e2] at q
      intro F2 ι2 H2 us le2 ge2 w2 rd2
      obtain ⟨h1, h2⟩ := hl _ _ _ _ e1 _ _ e2
      exact ⟨by rw [← rd.length]; exact h1, by rw [← rd2.length]; exact h2, F2, ι2, _, s2, w2, RepL.perm ((rd.mono le2 ge2).append rd2) ix, PostG.call (PostG.mono le2 ge2 q)⟩
    | exc x s2 => rw [e2] at q; exact q
    | bad => rw [e2] at q; exact q
  | exc x s1 => rw [e1] at q; exact q
  | bad => rw [e1] at q; exact q
theorem run_kwS {ks : List Str} {fd : FuncData} {fa : Addr} {sp : Sp} {E : XK} {pins : List (Addr × Obj)} {σ : L2.St} {H : Hp} {s : Shared} {Q : VK} {us ws bs : List Value} {vs : List V} (F : FnOk X.prog X.w X.K X.mg X.base (L2.CX X.prog X.w) k fa fd ps sp) (hr : Room k X.A)
    (hb : BindsTo s fd ⟨us, ks.zip ws⟩ (ps.zip bs)) (hx : PassesAt (L2.CX X.prog X.w) X σ E)
    (I : Inv X pins σ H s) (r : Vals vs bs) (h : sp vs H Q E) : wpAny (model X.prog X.w) X.A (call (.ref fa) us (ks.zip ws)) (EP X pins σ Q) X.xe s := by
  refine wpAny_call (codeAny_mono (F.run X.A X.stack s H ⟨us, ks.zip ws⟩ bs vs Q E hr I.env0 hb r h) fun r s' hq => ?_)
  cases r with
  | error e => exact hx pins H s e s' I hq
  | ok fl =>
    cases fl with
    | ret u => exact I.after hq
    | next => exact False.elim hq
    | brk => exact False.elim hq
    | cont => exact False.elim hq
/-- f(k = e, ..) -/
theorem qe_callK0 {kws : List Keyword} (ks : List Str) (ix : List Nat) (hF : FnD X.prog X.w X.K X.mg X.base cm x st ps k f) (hr : Room k X.A) (tk : Takes X W) (hk : Pk X cm W kws mk)
    (hb : ∀ (kV doc pm : Value) (an : Option Addr) (cdv ct : Value) (ws : List Value), ws.length = ks.length → bindArgs (PySem.W.fnOf x x (defArgs st) (defBody st) (defScope st) .none kV doc pm an cdv ct) ⟨[], ks.zip ws⟩ = pure (ps.zip (permL ix ws)))
    (hpn : ∀ ws : List V, ws.length = ks.length → (permL ix ws).length = ps.length)
    (hlen : ∀ env s ds s', mk env s = .ok ds s' → ds.length = ks.length)
    (hg : Gl X x := by rfl) (hall : (backToKw pos (keywordEach kws X.env)).all (·.1.isSome) = true := by rfl) (hks : (backToKw pos (keywordEach kws X.env)).filterMap (·.1) = ks := by rfl) (hdb : (x == ("__debug__" : Str)) = false := by decide)
    (hpl : ((backTo pos (starEach [] X.env)).any (·.1) || (backToKw pos (keywordEach kws X.env)).any (·.1.isNone)) = false := by rfl) :
    Pe X cm W (.Call (.Name x p) [] kws pos) (mKw ix f mNil mk) := by
  obtain ⟨a, fd, F1, F2, hm⟩ := hF.ex
  refine ⟨fun pins s σ H Q I h => ?_⟩
  have q := kw_imp h (n := 0) (j := ks.length) (fun env s ds s' h1 es s'' h2 => by
    cases h1
    exact ⟨rfl, hlen _ _ _ _ h2⟩)
  have q0 : teG X.K cm (RepL X.K cm) W mk σ H fun zs H2 => zs.length = ks.length ∧ ∃ F ι ds s, Wd X.K cm F ι s H2 ∧ RepL X.K cm F ι ds (permL ix zs) ∧ PostC X.K cm F ι (f ds s) Q (WE W σ) := by
    obtain ⟨F, ι, env, s, w, r, q⟩ := q
    have q := q F ι H [] .refl .refl w .nil
    obtain ⟨F, ι, env, s, w, r, q⟩ := q
    exact ⟨F, ι, env, s, w, r, q.imp fun zs H2 ⟨_, h2, h3⟩ => ⟨h2, h3⟩⟩
  refine wpAny_Call_Name_kw (ld_glob I hg hm ?_ hdb)
  refine PySem.W.callWith_KW0 (h₀ := X.base) I.ok.mod.kin F1.kp hall ?_ hpl
  refine thn (hk.run pos pins s σ H _ I q0) fun ws s2 ⟨zs, H2, I2, rz, l2, q2⟩ => ⟨I2.kIn, ?_⟩
  rw [hks]
  obtain ⟨F', ι', ds, st', w', r', q'⟩ := q2
  have bt : BindsTo s2 fd ⟨[], ks.zip ws⟩ (ps.zip (permL ix ws)) := by
    obtain ⟨oc, od, dV, kV, doc, pm, an, cdv, ct, osl, rfl, lk, hcd, hD, hK⟩ := F1.ex
    rcases hD with ⟨_, rfl⟩ | ⟨z, _⟩
    · exact .of_eq (hb kV doc pm an cdv ct ws (by rw [← rz.length]; exact l2))
    · exact absurd rfl z
  exact run_kwS F2 hr bt (passAt tk σ) I2 (Vals.perm rz ix) ⟨hpn zs l2, F', ι', ds, st', w', r', q'⟩
end
end PM
end

/-! PmD -/
section
set_option Elab.async false
set_option linter.all false
set_option maxRecDepth 100000
set_option maxHeartbeats 4000000
/-! ### statements, loops, comprehensions -/
namespace PM
open PySem L2
def Res.toS {α : Type} (r : Res α) (e : Slots) (k : α → Sto → SR) : SR := match r with
  | .ok a s => k a s
  | .exc x s => .exc x e s
  | .bad => .bad
abbrev TgF := D → Slots → Option Slots
def tgN (j : Nat) : TgF := fun d e => some (e.set j (some d))
def setsE : List Nat → List D → Slots → Slots
  | j :: js, d :: ds, e => setsE js ds (e.set j (some d))
  | _, _, e => e
def tgT (js : List Nat) : TgF := fun d e => match d with
  | .tup ds => if ds.length = js.length then some (setsE js ds e) else none
  | .lst ds => if ds.length = js.length then some (setsE js ds e) else none
  | _ => none
def mNext : MS := fun e s => .next e s
def mSeq (a b : MS) : MS := fun e s => match a e s with
  | .next e s => b e s
  | r => r
def mAsg (a : M D) (t : TgF) : MS := fun e s => (a e s).toS e fun d s => match t d e with
  | some e => .next e s
  | none => .bad
def mSet (j : Nat) (a : M D) : MS := fun e s => (a e s).toS e fun d s => .next (e.set j (some d)) s
def mDrop (a : M D) : MS := fun e s => (a e s).toS e fun _ s => .next e s
def mRet (a : M D) : MS := fun e s => (a e s).toS e fun d s => .ret d s
def mRetN : MS := fun _ s => .ret .non s
def mIfS (c : M Bool) (a b : MS) : MS := fun e s => (c e s).toS e fun k s => if k = true then a e s else b e s
def mBad : MS := fun _ _ => .bad
def mBrk : MS := fun e s => .brk e s
def mCont : MS := fun e s => .cont e s
def putIx (o i v : D) (e : Slots) (s : Sto) : SR := match o, i with
  | .ref n, .int k => (match s[n]? with
    | some (.lst xs) => (match ixN xs.length k with
      | some j => if v.pureB = true then .next e (s.set n (.lst (xs.set j v))) else .bad
      | none => .bad)
    | _ => .bad)
  | _, _ => .bad
def mSetIx (a o i : M D) : MS := fun e s => (a e s).toS e fun v s => (o e s).toS e fun o s => (i e s).toS e fun i s => putIx o i v e s
def loopF (t : TgF) (b : MS) : List D → Slots → Sto → SR
  | [], e, s => .next e s
  | x :: xs, e, s => match t x e with
    | none => .bad
    | some e1 => match b e1 s with
      | .next e2 s2 => loopF t b xs e2 s2
      | .cont e2 s2 => loopF t b xs e2 s2
      | .brk e2 s2 => .next e2 s2
      | .ret d s2 => .ret d s2
      | .exc x e2 s2 => .exc x e2 s2
      | .bad => .bad
def mFor (t : TgF) (src : M (List D)) (b : MS) : MS := fun e s => (src e s).toS e fun xs s => loopF t b xs e s
/-- nothing may be raised in it -/
def Res.bindN {α β : Type} (r : Res α) (k : α → Sto → Res β) : Res β := match r with
  | .ok a s => k a s
  | _ => .bad
def wipeE (e : Slots) : List Nat → Slots
  | [] => e
  | v :: vs => (wipeE e vs).set v none
def compF (t : TgF) (c : M Bool) (el : M D) (e : Slots) : List D → Sto → Res (List D)
  | [], s => .ok [] s
  | x :: xs, s => match t x e with
    | none => .bad
    | some e1 => (c e1 s).bindN fun k s => if k = true then (el e1 s).bindN fun d s => (compF t c el e xs s).bindN fun ds s => .ok (d :: ds) s else compF t c el e xs s
def mComp (mu : Bool) (own : List Nat) (t : TgF) (src : M (List D)) (c : M Bool) (el : M D) : M D := fun e s => (src e s).bind fun xs s => if xs.length ≤ 1000000 then (compF t c el (wipeE e own) xs s).bind fun ds s => mkL mu ds s else .bad

section
variable {K : PySem.W.Frag} {cm : Str → Option Addr} {F F' : Hp} {ι ι' : Io} {W : WX} {σ : L2.St}
theorem toS_split {α β : Type} {R : Hp → Io → α → β → Prop} {r : Res α} {e : Slots} {k : α → Sto → SR} {E : Ends} (re : RepE K cm F ι e σ) (h : SPost K cm W F ι (r.toS e k) E) :
    PostG K cm R W F ι σ r (fun b H => ∃ F' ι' a s, Le F F' ∧ Ge ι ι' ∧ Wd K cm F' ι' s H ∧ R F' ι' a b ∧ SPost K cm W F' ι' (k a s) E) := by
  cases r with
  | ok a s => exact fun F1 ι1 H1 b le ge w r => ⟨F1, ι1, a, s, le, ge, w, r, SPost.mono le ge h⟩
  | exc x s => exact fun F1 ι1 H1 c dd le ge w r => h F1 ι1 H1 σ c dd le ge w (re.mono le ge) r
  | bad => exact h
end
/-! ### targets -/
theorem wipe_len (σ : L2.St) : ∀ vs : List Nat, (wipe σ vs).length = σ.length
  | [] => rfl
  | v :: vs => by unfold wipe; rw [List.length_set, wipe_len σ vs]
theorem wipe_set (σ : L2.St) (j : Nat) (x : Option V) : ∀ vs : List Nat, wipe (σ.set j x) vs = if j ∈ vs then wipe σ vs else (wipe σ vs).set j x
  | [] => by simp [wipe]
  | v :: vs => by
    unfold wipe
    rw [wipe_set σ j x vs]
    by_cases h : j ∈ vs
    · rw [if_pos h, if_pos (List.mem_cons_of_mem _ h)]
    · rw [if_neg h]
      by_cases e : j = v
      · subst e
        rw [if_pos List.mem_cons_self, List.set_set]
      · rw [if_neg (by simp [h, e]), List.set_comm _ _ e]
theorem wipe_in {σ : L2.St} {j : Nat} {x : Option V} {vs : List Nat} (h : j ∈ vs) : wipe (σ.set j x) vs = wipe σ vs := by rw [wipe_set, if_pos h]
theorem wipe_idem (σ : L2.St) : ∀ vs : List Nat, ∀ us : List Nat, (∀ v ∈ us, v ∈ vs) → wipe (wipe σ us) vs = wipe σ vs
  | vs, [], _ => rfl
  | vs, u :: us, h => by
    show wipe ((wipe σ us).set u none) vs = _
    rw [wipe_in (h u List.mem_cons_self)]
    exact wipe_idem σ vs us fun v hv => h v (List.mem_cons_of_mem _ hv)
def tgM (K : PySem.W.Frag) (cm : Str → Option Addr) (js : List Nat) (t : TgF) : TG := fun v σ H Q => ∃ F ι env s d, Wd K cm F ι s H ∧ RepE K cm F ι env σ ∧ Rep K cm F ι d v ∧ match t d env with
  | some env' => ∀ σ', RepE K cm F ι env' σ' → (∀ vs, (∀ j ∈ js, j ∈ vs) → wipe σ' vs = wipe σ vs) → Q σ' H
  | none => False
abbrev Pg (X : Cx) (cm : Str → Option Addr) (tg : Expr) (js : List Nat) (t : TgF) : Prop := PG X tg (tgM X.K cm js t)
theorem pg_imp {X : Cx} {e : Expr} {t t' : TG} (h : PG X e t) (k : ∀ v σ H Q, t' v σ H Q → t v σ H Q) : PG X e t' := ⟨fun pins s σ H v u Q I r q => h.run pins s σ H v u Q I r (k v σ H Q q)⟩
theorem pg_or {X : Cx} {e : Expr} {t t' : TG} (h : PG X e t) (h' : PG X e t') : PG X e (fun v σ H Q => t v σ H Q ∨ t' v σ H Q) := ⟨fun pins s σ H v u Q I r q => q.elim (h.run pins s σ H v u Q I r) (h'.run pins s σ H v u Q I r)⟩
section
variable {X : Cx} {cm : Str → Option Addr} {W : WX} {a b c e : Expr} {es : List Expr} {st : Stmt} {sts : List Stmt} {pos : Pos} {ma mb mc : M D} {na : M Bool} {ms mt : MS}
theorem qg_name {i : Nat} {x : Str} (h : PG X (.Name x pos) (gName i)) : Pg X cm (.Name x pos) [i] (tgN i) := pg_imp h fun v σ H Q ⟨F, ι, env, s, d, w, re, rd, q⟩ => q _ (re.set rd i) fun vs h => wipe_in (h i List.mem_cons_self)
/-- several names -/
inductive Gn (X : Cx) : List Expr → List Nat → TGs → Prop where
  | nil : Gn X [] [] gNil
  | cons {e : Expr} {es : List Expr} {j : Nat} {js : List Nat} {u : TGs} : Gn X es js u → Gn X (e :: es) (j :: js) (gCons (gName j) u)
theorem Gn.run {K : PySem.W.Frag} {F : Hp} {ι : Io} {H : Hp} {Q : L2.St → Hp → Prop} : ∀ {es : List Expr} {js : List Nat} {u : TGs}, Gn X es js u → ∀ {ds : List D} {vs : List V} {env : Slots} {σ : L2.St}, RepL K cm F ι ds vs → ds.length = js.length → RepE K cm F ι env σ →
    (∀ σ', RepE K cm F ι (setsE js ds env) σ' → (∀ vs, (∀ j ∈ js, j ∈ vs) → wipe σ' vs = wipe σ vs) → Q σ' H) → u vs σ H Q
  | _, _, _, .nil, _, _, _, _, .nil, _, re, q => ⟨rfl, q _ re fun _ _ => rfl⟩
  | _, _, _, .cons g, _, _, _, _, .cons r t, hl, re, q => ⟨_, _, rfl, g.run t (by simpa using hl) (re.set r _) fun σ' r' h' => q σ' r' fun vs hv => (h' vs fun j hj => hv j (List.mem_cons_of_mem _ hj)).trans (wipe_in (hv _ List.mem_cons_self))⟩
  | _, _, _, .nil, _, _, _, _, .cons _ _, hl, _, _ => by simp at hl
  | _, _, _, .cons _, _, _, _, _, .nil, hl, _, _ => by simp at hl
theorem qg_tup {k : Nat} {js : List Nat} {u : TGs} (hc : X.calm = true) (g : Gn X es js u) (h : PGs X es u) (hn : (assignEach es X.env).length = js.length := by rfl) (hst : (assignEach es X.env).findIdx? (·.1) = none := by rfl) : Pg X cm (.Tuple es k pos) js (tgT js) :=
  pg_imp (pg_or (pg_tup hc h hn hst) (pg_lst hc h hn hst)) fun v σ H Q ⟨F, ι, env, s, d, w, re, rd, q⟩ => by
    cases rd with
    | tup hq hl =>
      unfold tgT at q
      dsimp only at q
      split at q
      · rename_i env' he
        split at he
        · rename_i hlen
          cases he
          exact .inl ⟨_, _, rfl, Le.t w.sub hq, by rw [← hl.length]; exact hlen, g.run hl hlen re q⟩
        · cases he
      · exact q.elim
    | lst hq hl =>
      unfold tgT at q
      dsimp only at q
      split at q
      · rename_i env' he
        split at he
        · rename_i hlen
          cases he
          exact .inr ⟨_, _, rfl, Le.l w.sub hq, by rw [← hl.length]; exact hlen, g.run hl hlen re q⟩
        · cases he
      · exact q.elim
    | _ => exact q.elim
/-! ### statements -/
theorem qss_nil : Pss X cm W [] mNext := pss_imp pss_nil fun E σ H ⟨F, ι, env, s, w, r, q⟩ => q F ι H σ .refl .refl w r
theorem qss_one (h : Ps X cm W st ms) : Pss X cm W [st] ms := pss_one h
theorem qss_cons (h : Ps X cm W st ms) (h2 : Pss X cm W sts mt) : Pss X cm W (st :: sts) (mSeq ms mt) := pss_imp (pss_cons h h2) fun E σ H ⟨F, ι, env, s, w, r, q⟩ => by
  refine ⟨F, ι, env, s, w, r, ?_⟩
  unfold mSeq at q
  cases e1 : ms env s with
  | next e s1 => rw [e1] at q; exact fun F1 ι1 H1 σ1 le ge w1 r1 => ⟨F1, ι1, e, s1, w1, r1, SPost.mono le ge q⟩
  | ret d s1 => rw [e1] at q; exact q
  | brk d s1 => rw [e1] at q; exact q
  | cont d s1 => rw [e1] at q; exact q
  | exc x d s1 => rw [e1] at q; exact q
  | bad => rw [e1] at q; exact q
theorem qs_pass : Ps X cm W (.Pass pos) mNext := ps_imp ps_pass fun E σ H ⟨F, ι, env, s, w, r, q⟩ => q F ι H σ .refl .refl w r
theorem qs_brk : Ps X cm W (.Break pos) mBrk := ps_imp ps_break fun E σ H ⟨F, ι, env, s, w, r, q⟩ => q F ι H σ .refl .refl w r
theorem qs_cont : Ps X cm W (.Continue pos) mCont := ps_imp ps_continue fun E σ H ⟨F, ι, env, s, w, r, q⟩ => q F ι H σ .refl .refl w r
theorem qs_never : Ps X cm W st mBad := ps_imp ps_never fun E σ H ⟨F, ι, env, s, w, r, q⟩ => q
theorem qs_expr (h : Pe X cm W e ma) (hs : swapsWith e none pos.line X.env = pure false := by rfl) : Ps X cm W (.Expr e pos) (mDrop ma) := ps_imp (ps_expr h hs) fun E σ H ⟨F, ι, env, s, w, r, q⟩ =>
  ⟨F, ι, env, s, w, r, (toS_split r q).imp fun v H1 ⟨F1, ι1, d, s1, le, ge, w1, rd, q1⟩ => q1 F1 ι1 H1 σ .refl .refl w1 (r.mono le ge)⟩
theorem qs_ret (h : Pe X cm W e ma) : Ps X cm W (.Return (some e) pos) (mRet ma) := ps_imp (ps_ret h) fun E σ H ⟨F, ι, env, s, w, r, q⟩ =>
  ⟨F, ι, env, s, w, r, (toS_split r q).imp fun v H1 ⟨F1, ι1, d, s1, le, ge, w1, rd, q1⟩ => q1 F1 ι1 H1 v .refl .refl w1 rd⟩
theorem qs_retN : Ps X cm W (.Return none pos) mRetN := ps_imp ps_retN fun E σ H ⟨F, ι, env, s, w, r, q⟩ => q F ι H _ .refl .refl w .non
theorem qs_if (hc : Pt X cm W c na) (ha : Pss X cm W sts ms) {sts' : List Stmt} (hb : Pss X cm W sts' mt) : Ps X cm W (.If c sts sts' pos) (mIfS na ms mt) := ps_imp (ps_if hc ha hb) fun E σ H ⟨F, ι, env, s, w, r, q⟩ =>
  ⟨F, ι, env, s, w, r, (toS_split (R := rEq) r q).imp fun v H1 ⟨F1, ι1, d, s1, le, ge, w1, rd, q1⟩ => by
    obtain rfl : v = d := rd
    cases v with
    | true => rw [if_pos rfl] at q1 ⊢; exact ⟨F1, ι1, env, s1, w1, r.mono le ge, q1⟩
    | false => rw [if_neg Bool.false_ne_true] at q1 ⊢; exact ⟨F1, ι1, env, s1, w1, r.mono le ge, q1⟩⟩
theorem set_imp {i : Nat} {E : Ends} {σ : L2.St} {H : Hp} (h : tsM X.K cm W (mSet i ma) E σ H) : tAsg (teG X.K cm (Rep X.K cm) W ma) (gName i) E σ H := by
  obtain ⟨F, ι, env, s, w, r, q⟩ := h
  exact ⟨F, ι, env, s, w, r, (toS_split r q).imp fun v H1 ⟨F1, ι1, d, s1, le, ge, w1, rd, q1⟩ => q1 F1 ι1 H1 _ .refl .refl w1 ((r.mono le ge).set rd i)⟩
theorem qs_set {i : Nat} {x : Str} {pos' : Pos} (hN : X.N.Nodup) (ha : Pe X cm W e ma) (hi : X.N[i]? = some x := by rfl) (hx : Loc X.env.scope x := by first | exact Or.inl rfl | exact Or.inr rfl) (hs : swapsWith e (some (.Name x pos')) pos.line X.env = pure false := by rfl)
    (hf : X.fn x = true ∨ X.env.scope.names.lookup x = some .local := by first | exact .inl rfl | exact .inr rfl) : Ps X cm W (.Assign [.Name x pos'] e pos) (mSet i ma) := ps_imp (ps_set hN hi hx ha hs hf) fun _ _ _ h => set_imp h
theorem qs_asg {tg : Expr} {t : TgF} {js : List Nat} (ha : Pe X cm W e ma) (hg : Pg X cm tg js t) (hs : swapsWithSole [tg] e pos.line X.env = pure false := by rfl) (hw : swappedStores [tg] e X.env = pure none := by rfl) (h1 : (assignEach [tg] X.env).map (·.2) = [assign tg X.env] := by rfl) : Ps X cm W (.Assign [tg] e pos) (mAsg ma t) :=
  ps_imp (ps_asg ha hg hs hw h1) fun E σ H ⟨F, ι, env, s, w, r, q⟩ =>
  ⟨F, ι, env, s, w, r, (toS_split r q).imp fun v H1 ⟨F1, ι1, d, s1, le, ge, w1, rd, q1⟩ => by
    refine ⟨F1, ι1, env, s1, d, w1, r.mono le ge, rd, ?_⟩
    split at q1
    · exact fun σ' r' _ => q1 F1 ι1 H1 σ' .refl .refl w1 r'
    · exact q1⟩
/-- a, b = x, y: no pair is made -/
def mPar (i j : Nat) (m : M (List D)) : MS := fun e s => (m e s).toS e fun ds s => match ds with
  | [x, y] => .next ((e.set i (some x)).set j (some y)) s
  | _ => .bad
theorem qs_par {i j : Nat} {x y : Str} {m : M (List D)} {px py pt : Pos} {kt k2 : Nat} {pt2 : Pos} (hc : X.calm = true) (hN : X.N.Nodup) (ha : Pa X cm W [a, b] m) (hi : X.N[i]? = some x := by rfl) (hj : X.N[j]? = some y := by rfl) (hij : i ≠ j := by decide)
    (hx : X.env.scope.names.lookup x = some .local := by rfl) (hy : X.env.scope.names.lookup y = some .local := by rfl)
    (hw : swappedStores [.Tuple [.Name x px, .Name y py] kt pt] (.Tuple [a, b] k2 pt2) X.env = pure (some [x, y]) := by rfl)
    (hs : swapsWithSole [.Tuple [.Name x px, .Name y py] kt pt] (.Tuple [a, b] k2 pt2) pos.line X.env = pure false := by rfl) :
    Ps X cm W (.Assign [.Tuple [.Name x px, .Name y py] kt pt] (.Tuple [a, b] k2 pt2) pos) (mPar i j m) := ps_imp (ps_par hc hN hi hj hij hx hy ha hw hs) fun E σ H ⟨F, ι, env, s, w, r, q⟩ =>
  ⟨F, ι, env, s, w, r, (toS_split r q).imp fun v H1 ⟨F1, ι1, ds, s1, le, ge, w1, rd, q1⟩ => by
    cases rd with
    | nil => exact q1.elim
    | cons r1 t =>
      cases t with
      | nil => exact q1.elim
      | cons r2 t =>
        cases t with
        | nil => exact ⟨_, _, rfl, q1 F1 ι1 H1 _ .refl .refl w1 (((r.mono le ge).set r1 i).set r2 j)⟩
        | cons _ _ => exact q1.elim⟩
theorem qs_setix {o i : Expr} {mo mi : M D} {p2 : Pos} (ha : Pe X cm W e ma) (ho : Pe X cm W o mo) (hi : Pe X cm W i mi)
    (hs : swapsWithSole [.Subscript o i p2] e pos.line X.env = pure false := by rfl) (hw : swappedStores [.Subscript o i p2] e X.env = pure none := by rfl) (h1 : (assignEach [.Subscript o i p2] X.env).map (·.2) = [assign (.Subscript o i p2) X.env] := by rfl)
    (hq : ∀ v, assign (.Subscript o i p2) X.env v = (do
      let ov ← holding [v] (eval o X.env)
      let iv ← holding [v, ov] (eval i X.env)
      standAt p2
      holding [v, ov, iv] (setItem ov iv v)
      release [v, ov, iv] []) := by intro _; rfl) : Ps X cm W (.Assign [.Subscript o i p2] e pos) (mSetIx ma mo mi) := ps_imp (ps_asg ha (pg_sub ho hi set_list hq) hs hw h1) fun E σ H ⟨F, ι, env, s, w, r, q⟩ => by
  refine ⟨F, ι, env, s, w, r, (toS_split r q).imp fun v H1 ⟨F1, ι1, d1, s1, le1, ge1, w1, r1, q1⟩ => ?_⟩
  refine ⟨F1, ι1, env, s1, w1, r.mono le1 ge1, (toS_split (r.mono le1 ge1) q1).imp fun ov H2 ⟨F2, ι2, d2, s2, le2, ge2, w2, r2, q2⟩ => ?_⟩
  refine ⟨F2, ι2, env, s2, w2, (r.mono le1 ge1).mono le2 ge2, (toS_split ((r.mono le1 ge1).mono le2 ge2) q2).imp fun iv H3 ⟨F3, ι3, d3, s3, le3, ge3, w3, r3, q3⟩ => ?_⟩
  unfold putIx at q3
  have r2' := r2.mono le3 ge3
  cases r2' with
  | @ref n ad hn =>
    cases r3 with
    | int k =>
      dsimp only at q3
      cases es : s3[n]? with
      | none => rw [es] at q3; exact q3.elim
      | some mo =>
        rw [es] at q3
        cases mo with
        | ins _ _ => exact q3.elim
        | lst xs =>
          dsimp only at q3
          obtain ⟨vs, e1, rv⟩ := w3.cur n _ ad es hn
          cases ej : ixN xs.length k with
          | none => rw [ej] at q3; exact q3.elim
          | some j =>
            rw [ej] at q3
            dsimp only at q3
            by_cases hp : d1.pureB = true
            · rw [if_pos hp] at q3
              refine ⟨ad, vs, k, j, rfl, rfl, e1, by rw [← rv.length]; exact ej, ?_⟩
              have rd := (r1.mono le2 ge2).mono le3 ge3
              have pl : D.pureL (xs.set j d1) = true := pure_set hp j (w3.pur n _ es)
              exact q3 F3 ι3 _ _ .refl .refl (w3.put hn ⟨_, rfl, RepL.set rd j rv⟩ pl) (((r.mono le1 ge1).mono le2 ge2).mono le3 ge3)
            · rw [if_neg hp] at q3; exact q3.elim
    | _ => exact q3.elim
  | _ => exact q3.elim
where pure_set {d : D} (hp : d.pureB = true) : ∀ {xs : List D} (j : Nat), D.pureL xs = true → D.pureL (xs.set j d) = true
  | [], _, h => h
  | x :: r, 0, h => by
    simp only [List.set, D.pureL, Bool.and_eq_true] at h ⊢
    exact ⟨hp, h.2⟩
  | x :: r, j + 1, h => by
    simp only [List.set, D.pureL, Bool.and_eq_true] at h ⊢
    exact ⟨h.1, pure_set hp j h.2⟩
end
/-! ### what is walked -/
def WalkD (K : PySem.W.Frag) (cm : Str → Option Addr) (F : Hp) (ι : Io) (xs : List D) (J : It) : Prop := ∃ (G : Hp → Prop) (Y : Nat → Hp → V → Hp → Prop), Walk J xs.length G Y ∧ (∀ H, Le F H → G H) ∧
  ∀ (i : Nat) (H : Hp) (x : V) (H' : Hp) (F1 : Hp) (ι1 : Io) (s : Sto), i < xs.length → Le F F1 → (∀ (n : Nat) (a : Addr), ι.l[n]? = some a → ι1.l[n]? = some a) → Wd K cm F1 ι1 s H → Y i H x H' → ∃ F2 d, Le F1 F2 ∧ Wd K cm F2 ι1 s H' ∧ xs[i]? = some d ∧ Rep K cm F2 ι1 d x
structure Src (X : Cx) (cm : Str → Option Addr) (W : WX) (tg iter : Expr) (m : M (List D)) : Prop where
  ex : ∃ wi, PI X tg iter wi ∧ ∀ (σ : L2.St) (H : Hp) (R : It → Hp → Prop), (∃ F ι env s, Wd X.K cm F ι s H ∧ RepE X.K cm F ι env σ ∧ PostG X.K cm (WalkD X.K cm) W F ι σ (m env s) R) → wi σ H R
theorem WalkD.mono {K : PySem.W.Frag} {cm : Str → Option Addr} {F F' : Hp} {ι ι' : Io} {xs : List D} {J : It} (le : Le F F') (ge : Ge ι ι') (h : WalkD K cm F ι xs J) : WalkD K cm F' ι' xs J := by
  obtain ⟨G, Y, w, g, y⟩ := h
  exact ⟨G, Y, w, fun H l => g H (le.trans l), fun i H x H' F1 ι1 s hi l k wd yy => y i H x H' F1 ι1 s hi (le.trans l) (fun n a h => k n a (ge.2 n a h)) wd yy⟩
/-- the items of a frozen list or tuple -/
def items (m : M D) : M (List D) := fun e s => (m e s).bind fun d s => match d with
  | .lst xs => .ok xs s
  | .tup xs => .ok xs s
  | _ => .bad
theorem walkD_of {K : PySem.W.Frag} {cm : Str → Option Addr} {F : Hp} {ι : Io} {ds : List D} {vs : List V} {J : It} {G : Hp → Prop} (w : Walk J vs.length G (YAt vs)) (g : ∀ H, Le F H → G H) (r : RepL K cm F ι ds vs) : WalkD K cm F ι ds J :=
  ⟨G, YAt vs, by rw [r.length]; exact w, g, fun i H x H' F1 ι1 s hi le ge wd ⟨e1, e2⟩ => by
    subst e1
    obtain ⟨d, h1, h2⟩ := r.getV e2
    exact ⟨F1, d, .refl, wd, h1, h2.gro le ge⟩⟩
section
variable {X : Cx} {cm : Str → Option Addr} {W : WX} {tg e : Expr} {ma : M D} {pos : Pos}
def itemsL (m : M D) : M (List D) := fun e s => (m e s).bind fun d s => match d with
  | .lst xs => .ok xs s
  | _ => .bad
def itemsT (m : M D) : M (List D) := fun e s => (m e s).bind fun d s => match d with
  | .tup xs => .ok xs s
  | _ => .bad
theorem src_list (h : Pe X cm W e ma) : Src X cm W tg e (itemsL ma) := ⟨_, pi_list h, fun σ H R ⟨F, ι, env, s, w, r, q⟩ => ⟨F, ι, env, s, w, r, (PostG.split q).imp fun v H1 ⟨F1, ι1, d, s1, le, ge, w1, rd, q1⟩ => by
  cases rd with
  | lst hq hl => exact ⟨_, rfl, ⟨_, Le.l w1.sub hq⟩, q1 F1 ι1 H1 _ .refl .refl w1 (walkD_of walk_list (fun H l => Le.l l hq) hl)⟩
  | _ => exact q1.elim⟩⟩
theorem src_tup (h : Pe X cm W e ma) : Src X cm W tg e (itemsT ma) := ⟨_, pi_tup h, fun σ H R ⟨F, ι, env, s, w, r, q⟩ => ⟨F, ι, env, s, w, r, (PostG.split q).imp fun v H1 ⟨F1, ι1, d, s1, le, ge, w1, rd, q1⟩ => by
  cases rd with
  | tup hq hl => exact ⟨_, rfl, ⟨_, Le.t w1.sub hq⟩, q1 F1 ι1 H1 _ .refl .refl w1 (walkD_of walk_tup (fun H l => Le.t l hq) hl)⟩
  | _ => exact q1.elim⟩⟩
def rng (lo : Int) : Nat → List D
  | 0 => []
  | n + 1 => .int lo :: rng (lo + 1) n
theorem rng_len : ∀ (lo : Int) (n : Nat), (rng lo n).length = n
  | _, 0 => rfl
  | lo, n + 1 => congrArg (· + 1) (rng_len (lo + 1) n)
theorem rng_get : ∀ (lo : Int) (n i : Nat), i < n → (rng lo n)[i]? = some (.int (lo + i))
  | _, 0, _, h => by omega
  | lo, n + 1, 0, _ => by simp [rng]
  | lo, n + 1, i + 1, h => by
    rw [rng, List.getElem?_cons_succ, rng_get (lo + 1) n i (by omega)]
    congr 2
    omega
def range1 (m : M (List D)) : M (List D) := fun e s => (m e s).bind fun ds s => match ds with
  | [.int n] => if -1000000 ≤ n ∧ n ≤ 1000000 then .ok (rng 0 n.toNat) s else .bad
  | _ => .bad
def range2 (m : M (List D)) : M (List D) := fun e s => (m e s).bind fun ds s => match ds with
  | [.int a, .int n] => if (-1000000 ≤ a ∧ a ≤ 1000000) ∧ (-1000000 ≤ n ∧ n ≤ 1000000) then .ok (rng a (n - a).toNat) s else .bad
  | _ => .bad
theorem walkD_rng {K : PySem.W.Frag} {F : Hp} {ι : Io} {lo : Int} {n : Nat} : WalkD K cm F ι (rng lo n) (Itr lo n) :=
  ⟨fun _ => True, YFn fun i => .int (lo + i), by rw [rng_len]; exact walk_range, fun _ _ => trivial, fun i H x H' F1 ι1 s hi le ge wd ⟨e1, e2⟩ => by
    subst e1; subst e2
    rw [rng_len] at hi
    exact ⟨F1, _, .refl, wd, rng_get lo n i hi, .int _⟩⟩
theorem src_range1 {a : Expr} {m : M (List D)} {p : Pos} (hm : X.mg (Str.ofString "range") = none) (ha : Pa X cm W [a] m) (hg : Gl X (Str.ofString "range") := by rfl) (hs : starEach [a] X.env = [(false, eval a X.env)] := by rfl) : Src X cm W tg (.Call (.Name (Str.ofString "range") p) [a] [] pos) (range1 m) :=
  ⟨_, pi_range1 hg hm ha hs, fun σ H R ⟨F, ι, env, s, w, r, q⟩ => ⟨F, ι, env, s, w, r, (PostG.split q).imp fun v H1 ⟨F1, ι1, d, s1, le, ge, w1, rd, q1⟩ => by
    cases rd with
    | nil => exact q1.elim
    | cons r1 t =>
      cases r1 with
      | int n =>
        cases t with
        | nil =>
          dsimp only at q1
          by_cases c : -1000000 ≤ n ∧ n ≤ 1000000
          · rw [if_pos c] at q1
            exact ⟨n, rfl, by omega, by omega, q1 F1 ι1 H1 _ .refl .refl w1 walkD_rng⟩
          · rw [if_neg c] at q1; exact q1.elim
        | cons _ _ => exact q1.elim
      | _ => exact q1.elim⟩⟩
theorem src_range2 {a b : Expr} {m : M (List D)} {p : Pos} (hm : X.mg (Str.ofString "range") = none) (ha : Pa X cm W [a, b] m) (hg : Gl X (Str.ofString "range") := by rfl) (hs : starEach [a, b] X.env = [(false, eval a X.env), (false, eval b X.env)] := by rfl) (hs2 : starEach [b] X.env = [(false, eval b X.env)] := by rfl) : Src X cm W tg (.Call (.Name (Str.ofString "range") p) [a, b] [] pos) (range2 m) :=
  ⟨_, pi_range2 hg hm ha hs hs2, fun σ H R ⟨F, ι, env, s, w, r, q⟩ => ⟨F, ι, env, s, w, r, (PostG.split q).imp fun v H1 ⟨F1, ι1, d, s1, le, ge, w1, rd, q1⟩ => by
    cases rd with
    | nil => exact q1.elim
    | cons r1 t =>
      cases r1 with
      | int lo =>
        cases t with
        | nil => exact q1.elim
        | cons r2 t =>
          cases r2 with
          | int n =>
            cases t with
            | nil =>
              dsimp only at q1
              by_cases c : (-1000000 ≤ lo ∧ lo ≤ 1000000) ∧ (-1000000 ≤ n ∧ n ≤ 1000000)
              · rw [if_pos c] at q1
                exact ⟨lo, n, rfl, ⟨by omega, by omega, by omega, by omega⟩, q1 F1 ι1 H1 _ .refl .refl w1 walkD_rng⟩
              · rw [if_neg c] at q1; exact q1.elim
            | cons _ _ => exact q1.elim
          | _ => exact q1.elim
      | _ => exact q1.elim⟩⟩
/-! ### for -/
theorem qs_for {t : TgF} {js : List Nat} {src : M (List D)} {body : List Stmt} {mb : MS} (hp : PassesOwn (model X.prog X.w) X.A X.env X.xe) (hc : X.calm = true) (hs : Src X cm W tg e src) (hg : Pg X cm tg js t) (hb : Pss X cm W body mb)
    (hf : ∀ x : Value, foldedSetIterable e X.env x = pure x := by intro _; rfl) : Ps X cm W (.For tg e body [] pos) (mFor t src mb) := by
  obtain ⟨wi, hi, src'⟩ := hs.ex
  refine ps_imp (ps_for hp hc hi hg hb hf) fun E σ H ⟨F, ι, env, s, w, r, q⟩ => ?_
  refine src' σ H _ ⟨F, ι, env, s, w, r, (toS_split r q).imp fun J H1 ⟨F1, ι1, xs, s1, le, ge, w1, wk, q1⟩ => ?_⟩
  obtain ⟨G, Y, wJ, hG, hY⟩ := wk
  refine for_it wJ (fun i σ H => ∃ F' ι' env' s', Le F1 F' ∧ Ge ι1 ι' ∧ Wd X.K cm F' ι' s' H ∧ RepE X.K cm F' ι' env' σ ∧ SPost X.K cm W F' ι' (loopF t mb (xs.drop i) env' s') E)
    ⟨F1, ι1, env, s1, .refl, .refl, w1, r.mono le ge, by rw [List.drop_zero]; exact q1⟩ (fun i σ H _ ⟨F', _, _, _, l, _, wd, _, _⟩ => hG H (l.trans wd.sub)) ?_ ?_
  · rintro i x σ' H' H2 hi ⟨F', ι', env', s', l, g, wd, re, p⟩ y
    obtain ⟨F2, d, l2, wd2, hd, rd⟩ := hY i H' x H2 F' ι' s' hi l g.2 wd y
    obtain ⟨h3, e3⟩ := List.getElem?_eq_some_iff.mp hd
    rw [List.drop_eq_getElem_cons h3, e3] at p
    unfold loopF at p
    refine ⟨F2, ι', env', s', d, wd2, re.mono l2 .refl, rd, ?_⟩
    cases et : t d env' with
    | none => rw [et] at p; exact p.elim
    | some e1 =>
      rw [et] at p
      dsimp only at p
      intro σ2 re2 _
      refine ⟨F2, ι', e1, s', wd2, re2, ?_⟩
      cases eb : mb e1 s' with
      | next e2 s2 => rw [eb] at p; exact fun F3 ι3 H3 σ3 l3 g3 w3 r3 => ⟨F3, ι3, e2, s2, (l.trans l2).trans l3, g.trans g3, w3, r3, SPost.mono (l2.trans l3) g3 p⟩
      | cont e2 s2 => rw [eb] at p; exact fun F3 ι3 H3 σ3 l3 g3 w3 r3 => ⟨F3, ι3, e2, s2, (l.trans l2).trans l3, g.trans g3, w3, r3, SPost.mono (l2.trans l3) g3 p⟩
      | brk e2 s2 => rw [eb] at p; exact SPost.mono l2 .refl p
      | ret d2 s2 => rw [eb] at p; exact SPost.mono l2 .refl p
      | exc x2 e2 s2 => rw [eb] at p; exact SPost.mono l2 .refl p
      | bad => rw [eb] at p; exact p
  · rintro σ' H' ⟨F', ι', env', s', l, g, wd, re, p⟩
    rw [List.drop_of_length_le (Nat.le_refl _)] at p
    exact p F' ι' H' σ' .refl .refl wd re
end
end PM
end

/-! PmE -/
section
set_option Elab.async false
set_option linter.all false
set_option maxRecDepth 100000
set_option maxHeartbeats 4000000
/-! ### list comprehensions, defs, classes -/
namespace PM
open PySem L2
section
variable {K : PySem.W.Frag} {cm : Str → Option Addr} {F : Hp} {ι : Io} {s : Sto} {H : Hp}
theorem Wd.aside (w : Wd K cm F ι s H) {p : Addr} {o : HO} (h : H p = none) : Wd K cm F ⟨ι.l, upd ι.r p o⟩ s (upd H p o) where
  sub := fun a u e => by
    have q : a ≠ p := fun z => by subst z; rw [w.fresh h] at e; cases e
    rw [upd_ne q]; exact w.sub a u e
  len := w.len
  cur := fun n o' a h1 h2 => by
    have q : a ≠ p := fun z => w.notin h (z ▸ List.mem_of_getElem? h2)
    rw [upd_ne q]; exact (w.cur n o' a h1 h2).pure .refl (w.pur n o' h1)
  nof := w.nof
  nd := w.nd
  pur := w.pur
  res := fun a u e => by
    by_cases q : a = p
    · subst q
      have e : upd ι.r a o a = some u := e
      rw [upd_same] at e ⊢
      exact ⟨e, w.fresh h, w.notin h⟩
    · have e : upd ι.r p o a = some u := e
      rw [upd_ne q] at e ⊢
      exact w.res a u e
theorem Wd.aput {l : List Addr} {r : Hp} {p : Addr} {o o' : HO} (w : Wd K cm F ⟨l, upd r p o⟩ s H) : Wd K cm F ⟨l, upd r p o'⟩ s (upd H p o') := by
  obtain ⟨hp, fp, lp⟩ := w.res p o (show upd r p o p = some o from upd_same)
  exact ⟨fun a u e => by
    have q : a ≠ p := fun z => by subst z; rw [fp] at e; cases e
    rw [upd_ne q]; exact w.sub a u e, w.len, fun n m a h1 h2 => by
    have q : a ≠ p := fun z => lp (z ▸ List.mem_of_getElem? h2)
    rw [upd_ne q]; exact (w.cur n m a h1 h2).pure .refl (w.pur n m h1), w.nof, w.nd, w.pur, fun a u e => by
    by_cases q : a = p
    · subst q
      have e : upd r a o' a = some u := e
      rw [upd_same] at e ⊢
      exact ⟨e, fp, lp⟩
    · have e : upd r p o' a = some u := e
      rw [upd_ne q] at e ⊢
      exact w.res a u (show upd r p o a = some u by rw [upd_ne q]; exact e)⟩
/-- what stood by is frozen -/
theorem Wd.afrz {l : List Addr} {r : Hp} {p : Addr} {o : HO} (w : Wd K cm F ⟨l, upd r p o⟩ s H) (hr : r p = none) : Wd K cm (upd F p o) ⟨l, r⟩ s H := by
  obtain ⟨hp, fp, lp⟩ := w.res p o (show upd r p o p = some o from upd_same)
  exact ⟨fun a u e => by
    by_cases q : a = p
    · subst q; rw [upd_same] at e; rw [← e]; exact hp
    · rw [upd_ne q] at e; exact w.sub a u e, w.len, fun n m a h1 h2 => (w.cur n m a h1 h2).pure (Le.new fp) (w.pur n m h1), fun a ha => by
    have q : a ≠ p := fun z => lp (z ▸ ha)
    rw [upd_ne q]; exact w.nof a ha, w.nd, w.pur, fun a u e => by
    have q : a ≠ p := fun z => by
      subst z
      have e : r a = some u := e
      rw [hr] at e; cases e
    obtain ⟨h1, h2, h3⟩ := w.res a u (show upd r p o a = some u by rw [upd_ne q]; exact e)
    rw [upd_ne q]; exact ⟨h1, h2, h3⟩⟩
/-- what stood by may be changed from here on -/
theorem Wd.amut {l : List Addr} {r : Hp} {p : Addr} {o : HO} {mo : MO} (w : Wd K cm F ⟨l, upd r p o⟩ s H) (hr : r p = none) (ro : RepO K cm F ⟨l, r⟩ mo (some o)) (hp : mo.pureB = true) : Wd K cm F ⟨l ++ [p], r⟩ (s ++ [mo]) H := by
  obtain ⟨h0, fp, lp⟩ := w.res p o (show upd r p o p = some o from upd_same)
  exact ⟨w.sub, by
    show (l ++ [p]).length = _
    rw [List.length_append, List.length_append, show l.length = s.length from w.len]; rfl, fun n o' a h1 h2 => by
    have h2 : (l ++ [p])[n]? = some a := h2
    have wl : l.length = s.length := w.len
    by_cases hn : n < s.length
    · rw [List.getElem?_append_left hn] at h1
      rw [List.getElem?_append_left (by rw [wl]; exact hn)] at h2
      exact (w.cur n o' a h1 h2).pure .refl (w.pur n o' h1)
    · have e : n = s.length := by
        have := (List.getElem?_eq_some_iff.mp h1).1
        simp at this; omega
      subst e
      rw [List.getElem?_append_right (Nat.le_refl _)] at h1
      rw [List.getElem?_append_right (by rw [wl]; exact Nat.le_refl _), wl] at h2
      simp at h1 h2
      subst h1; subst h2
      rw [h0]
      exact ro.pure .refl hp, fun a ha => by
    have ha : a ∈ l ++ [p] := ha
    rcases List.mem_append.mp ha with ha | ha
    · exact w.nof a ha
    · simp at ha; subst ha; exact fp, by
    show (l ++ [p]).Nodup
    rw [List.nodup_append]
    exact ⟨w.nd, by simp, fun a ha b hb z => lp (by simp at hb; rw [← hb, ← z]; exact ha)⟩, fun n o' h1 => by
    by_cases hn : n < s.length
    · rw [List.getElem?_append_left hn] at h1
      exact w.pur n o' h1
    · rw [List.getElem?_append_right (Nat.le_of_not_lt hn)] at h1
      cases e : n - s.length with
      | zero => rw [e] at h1; simp at h1; rw [← h1]; exact hp
      | succ k => rw [e] at h1; simp at h1, fun a u e => by
    have q : a ≠ p := fun z => by
      subst z
      have e : r a = some u := e
      rw [hr] at e; cases e
    obtain ⟨h1, h2, h3⟩ := w.res a u (show upd r p o a = some u by rw [upd_ne q]; exact e)
    exact ⟨h1, h2, fun z => (List.mem_append.mp z).elim h3 fun z => q (by simpa using z)⟩⟩
end
theorem RepL.lgro {K : PySem.W.Frag} {cm : Str → Option Addr} {F F' : Hp} {l l' : List Addr} {r r' : Hp} {ds : List D} {vs : List V} (e : Le F F') (g : ∀ (n : Nat) (a : Addr), l[n]? = some a → l'[n]? = some a) (h : RepL K cm F ⟨l, r⟩ ds vs) : RepL K cm F' ⟨l', r'⟩ ds vs := RepL.gro e g h
theorem Rep.lgro {K : PySem.W.Frag} {cm : Str → Option Addr} {F F' : Hp} {l l' : List Addr} {r r' : Hp} {ds : D} {vs : V} (e : Le F F') (g : ∀ (n : Nat) (a : Addr), l[n]? = some a → l'[n]? = some a) (h : Rep K cm F ⟨l, r⟩ ds vs) : Rep K cm F' ⟨l', r'⟩ ds vs := Rep.gro e g h
theorem ge_of {l l' : List Addr} {r : Hp} (g : ∀ (n : Nat) (a : Addr), l[n]? = some a → l'[n]? = some a) : Ge ⟨l, r⟩ ⟨l', r⟩ := ⟨rfl, g⟩
abbrev W0 : WX := fun _ _ _ _ => False
theorem RepE.wipe {K : PySem.W.Frag} {cm : Str → Option Addr} {F : Hp} {ι : Io} {env : Slots} {σ : L2.St} (r : RepE K cm F ι env σ) : ∀ vs : List Nat, RepE K cm F ι (wipeE env vs) (L2.wipe σ vs)
  | [] => r
  | v :: vs => (RepE.wipe r vs).unset v
section
variable {X : Cx} {cm : Str → Option Addr} {W : WX} {tg iter elt c e : Expr} {ifs : List Expr} {own : List (Str × Nat)} {scope : Scope} {pos : Pos} {t : TgF} {js : List Nat} {src : M (List D)} {mc : M Bool} {me : M D}
def mYes : M Bool := fun _ s => .ok true s
abbrev Pts (X : Cx) (cm : Str → Option Addr) (ifs : List Expr) (m : M Bool) : Prop := L2.PTs X ifs (teG X.K cm rEq W0 m)
theorem qts_nil : Pts X cm [] mYes := ⟨fun pins s σ H Q I ⟨F, ι, env, st, w, r, q⟩ => pts_nil.run pins s σ H Q I (q F ι H _ .refl .refl w rfl)⟩
theorem qts_one (h : Pt X cm W0 c mc) : Pts X cm [c] mc := pts_one h
theorem comp_imp {wi : TI} {mu : Bool} (hown : ∀ j ∈ js, j ∈ own.map (·.2)) (src' : ∀ (σ : L2.St) (H : Hp) (R : It → Hp → Prop), (∃ F ι env s, Wd X.K cm F ι s H ∧ RepE X.K cm F ι env σ ∧ PostG X.K cm (WalkD X.K cm) W F ι σ (src env s) R) → wi σ H R) {σ : L2.St} {H : Hp} {Q : VK}
    (h : teG X.K cm (Rep X.K cm) W (mComp mu (own.map (·.2)) t src mc me) σ H Q) : tLc wi (tgM X.K cm js t) (teG X.K cm rEq W0 mc) (teG X.K cm (Rep X.K cm) W0 me) (own.map (·.2)) σ H Q := by
  obtain ⟨F, ι, env, s, w, r, q⟩ := h
  refine src' σ H _ ⟨F, ι, env, s, w, r, (PostG.split q).imp fun J H1 ⟨F1, ι1, xs, s1, le, ge, w1, wk, q1⟩ => ?_⟩
  by_cases hz : xs.length ≤ 1000000
  case neg => rw [if_neg hz] at q1; exact q1.elim
  rw [if_pos hz] at q1
  obtain ⟨G, Y, wJ, hG, hY⟩ := wk
  intro D0 hD
  have rD : ι1.r D0 = none := by
    cases e : ι1.r D0 with
    | none => rfl
    | some o => rw [(w1.res D0 o e).1] at hD; cases hD
  have r1 := r.mono le ge
  have gl : ∀ {l' : List Addr} {r' : Hp}, (∀ (n : Nat) (a : Addr), ι1.l[n]? = some a → l'[n]? = some a) → ∀ (n : Nat) (a : Addr), ι1.l[n]? = some a → (Io.mk l' r').l[n]? = some a := fun h => h
  refine lc_it wJ (fun i H => ∃ (F' : Hp) (l' : List Addr) (s' : Sto) (acc : List D) (accV : List V), Le F1 F' ∧ (∀ (n : Nat) (a : Addr), ι1.l[n]? = some a → l'[n]? = some a) ∧ Wd X.K cm F' ⟨l', upd ι1.r D0 (.lst accV)⟩ s' H ∧ RepL X.K cm F' ⟨l', ι1.r⟩ acc accV ∧ acc.length ≤ i ∧
      PostG X.K cm (Rep X.K cm) W F' ⟨l', ι1.r⟩ σ ((compF t mc me (wipeE env (own.map (·.2))) (xs.drop i) s').bind fun ds s => mkL mu (acc ++ ds) s) Q)
    ⟨F1, ι1.l, s1, [], [], .refl, fun _ _ h => h, w1.aside hD, .nil, Nat.le_refl _, by rw [List.drop_zero]; exact q1⟩ (fun i H _ z => by
      obtain ⟨F', _, _, _, _, l, _, wd, _⟩ := z
      exact hG H (l.trans wd.sub)) ?_ ?_
  · intro i x H' H2 hi z y
    obtain ⟨F', l', s', acc, accV, l, g, wd, ra, hl, p⟩ := z
    obtain ⟨F2, d, l2, wd2, hd, rd⟩ := hY i H' x H2 F' ⟨l', upd ι1.r D0 (.lst accV)⟩ s' hi l (gl g) wd y
    obtain ⟨h3, e3⟩ := List.getElem?_eq_some_iff.mp hd
    rw [List.drop_eq_getElem_cons h3, e3] at p
    unfold compF at p
    refine ⟨F2, ⟨l', upd ι1.r D0 (.lst accV)⟩, wipeE env (own.map (·.2)), s', d, wd2, ((r1.gro (l.trans l2) (gl g)).wipe _), rd, ?_⟩
    cases et : t d (wipeE env (own.map (·.2))) with
    | none => rw [et] at p; exact p.elim
    | some e1 =>
      rw [et] at p
      dsimp only at p
      intro σ2 re2 hw2
      refine ⟨(hw2 _ hown).trans (wipe_idem σ _ _ fun _ h => h), ?_⟩
      refine ⟨F2, ⟨l', upd ι1.r D0 (.lst accV)⟩, e1, s', wd2, re2, ?_⟩
      cases ec : mc e1 s' with
      | exc x s2 => rw [ec] at p; exact p.elim
      | bad => rw [ec] at p; exact p
      | ok k s2 =>
        rw [ec] at p
        intro F3 ι3 H3 b le3 ge3 w3 eb
        obtain rfl : b = k := eb
        obtain ⟨l3, r3⟩ := ι3
        obtain rfl : r3 = upd ι1.r D0 (.lst accV) := ge3.1
        have g3 : ∀ (n : Nat) (a : Addr), l'[n]? = some a → l3[n]? = some a := ge3.2
        simp only [Res.bindN] at p
        cases b with
        | false =>
          rw [if_neg Bool.false_ne_true] at p ⊢
          exact ⟨F3, l3, s2, acc, accV, (l.trans l2).trans le3, fun n a h => g3 n a (g n a h), w3, ra.lgro (l2.trans le3) g3, Nat.le_succ_of_le hl, PostG.mono (l2.trans le3) (ge_of g3) p⟩
        | true =>
          rw [if_pos rfl] at p ⊢
          refine ⟨F3, ⟨l3, upd ι1.r D0 (.lst accV)⟩, e1, s2, w3, re2.gro le3 g3, ?_⟩
          cases ee : me e1 s2 with
          | exc x s2 => rw [ee] at p; exact p.elim
          | bad => rw [ee] at p; exact p
          | ok d4 s4 =>
            rw [ee] at p
            intro F4 ι4 H4 u le4 ge4 w4 r4
            obtain ⟨l4, r4'⟩ := ι4
            obtain rfl : r4' = upd ι1.r D0 (.lst accV) := ge4.1
            have g4 : ∀ (n : Nat) (a : Addr), l3[n]? = some a → l4[n]? = some a := ge4.2
            have ra4 : RepL X.K cm F4 ⟨l4, ι1.r⟩ acc accV := ra.lgro (l2.trans (le3.trans le4)) (fun n a h => g4 n a (g3 n a h))
            refine ⟨accV, (w4.res D0 _ upd_same).1, by rw [← ra.length]; exact Nat.lt_of_le_of_lt hl (by rw [sizeLine_eq]; omega), F4, l4, s4, acc ++ [d4], accV ++ [u], (l.trans l2).trans (le3.trans le4), fun n a h => g4 n a (g3 n a (g n a h)), w4.aput, ra4.append (.cons (r4.lgro .refl fun n a h => h) .nil), by rw [List.length_append]; exact Nat.succ_le_succ hl, ?_⟩
            have p := PostG.mono (l2.trans (le3.trans le4)) (ge_of fun n a h => g4 n a (g3 n a h)) p
            simp only [Res.bindN] at p
            cases ef : compF t mc me (wipeE env (own.map (·.2))) (xs.drop (i + 1)) s4 with
            | exc x s5 => rw [ef] at p; exact p.elim
            | bad => rw [ef] at p; exact p.elim
            | ok ds s5 =>
              rw [ef] at p
              show PostG X.K cm (Rep X.K cm) W F4 ⟨l4, ι1.r⟩ σ (mkL mu (acc ++ [d4] ++ ds) s5) Q
              rw [List.append_assoc]
              exact p
  · intro H' z
    obtain ⟨F', l', s', acc, accV, l, g, wd, ra, hl, p⟩ := z
    rw [List.drop_of_length_le (Nat.le_refl _)] at p
    unfold compF at p
    have p : PostG X.K cm (Rep X.K cm) W F' ⟨l', ι1.r⟩ σ (mkL mu (acc ++ []) s') Q := p
    rw [List.append_nil] at p
    have fD : F' D0 = none := (wd.res D0 _ upd_same).2.1
    cases mu with
    | true =>
      unfold mkL at p
      rw [if_pos rfl] at p
      by_cases c : D.pureL acc = true
      · rw [if_pos c] at p
        refine p F' ⟨l' ++ [D0], ι1.r⟩ H' _ .refl .app (wd.amut rD ⟨accV, rfl, ra⟩ c) (.ref ?_)
        show (l' ++ [D0])[s'.length]? = some D0
        have wl : l'.length = s'.length := wd.len
        rw [List.getElem?_append_right (by rw [wl]; exact Nat.le_refl _), wl]
        simp
      · rw [if_neg c] at p; exact p.elim
    | false => exact p _ ⟨l', ι1.r⟩ H' _ (Le.new fD) .refl (wd.afrz rD) (.lst (SqL.of upd_same) (ra.gro (Le.new fD) fun _ _ h => h))
end
end PM
end

/-! PmF -/
section
set_option Elab.async false
set_option linter.all false
set_option maxRecDepth 100000
set_option maxHeartbeats 4000000
/-! ### comprehensions as rules; defs; classes -/
namespace PM
open PySem L2
section
variable {X : Cx} {cm : Str → Option Addr} {W : WX} {tg iter elt c e : Expr} {ifs : List Expr} {scope : Scope} {pos : Pos} {t : TgF} {js : List Nat} {src : M (List D)} {mc : M Bool} {me : M D}
theorem qe_comp (mu : Bool) (own : List (Str × Nat)) (hc : X.calm = true) (hN : X.N.Nodup) (hs : Src X cm W tg iter src) (hb : BlkOk X.N X.env.scope scope own) (hown : ∀ j ∈ js, j ∈ own.map (·.2))
    (hg : ∀ (s : Shared) (H : Hp) (C : Addr) (cl : List (Str × Addr)) (fp : List Addr), Pg (X.blk s H scope (compEnvC scope cl C X.env) fp) cm tg js t)
    (ht : ∀ (s : Shared) (H : Hp) (C : Addr) (cl : List (Str × Addr)) (fp : List Addr), Pts (X.blk s H scope (compEnvC scope cl C X.env) fp) cm ifs mc)
    (he : ∀ (s : Shared) (H : Hp) (C : Addr) (cl : List (Str × Addr)) (fp : List Addr), Pe (X.blk s H scope (compEnvC scope cl C X.env) fp) cm W0 elt me)
    (hf : ∀ x : Value, foldedSetIterable iter X.env x = pure x := by intro _; rfl) : Pe X cm W (elt.ListComp [{ target := tg, iter := iter, ifs := ifs, is_async := 0 }] scope pos) (mComp mu (own.map (·.2)) t src mc me) := by
  obtain ⟨wi, hi, src'⟩ := hs.ex
  exact pe_imp (pe_lc hc hN hi hb hg ht he hf) fun σ H Q h => comp_imp hown src' h
theorem qs_comp {i : Nat} {y : Str} {py spos : Pos} (mu : Bool) (own : List (Str × Nat)) (hc : X.calm = true) (hN : X.N.Nodup) (hs : Src X cm W tg iter src) (hb : BlkOk X.N X.env.scope scope own) (hown : ∀ j ∈ js, j ∈ own.map (·.2))
    (hg : ∀ (s : Shared) (H : Hp) (C : Addr) (cl : List (Str × Addr)) (fp : List Addr), Pg (X.blk s H scope (compEnvC scope cl C X.env) fp) cm tg js t)
    (ht : ∀ (s : Shared) (H : Hp) (C : Addr) (cl : List (Str × Addr)) (fp : List Addr), Pts (X.blk s H scope (compEnvC scope cl C X.env) fp) cm ifs mc)
    (he : ∀ (s : Shared) (H : Hp) (C : Addr) (cl : List (Str × Addr)) (fp : List Addr), Pe (X.blk s H scope (compEnvC scope cl C X.env) fp) cm W0 elt me)
    (hi : X.N[i]? = some y := by rfl) (hl : List.lookup y X.env.scope.names = some NameKind.local := by rfl)
    (hsw : swapsWith (elt.ListComp [{ target := tg, iter := iter, ifs := ifs, is_async := 0 }] scope pos) (some (Expr.Name y py)) spos.line X.env = pure true := by exact sw_true rfl rfl rfl (by decide +kernel))
    (hf : ∀ x : Value, foldedSetIterable iter X.env x = pure x := by intro _; rfl) : Ps X cm W (.Assign [.Name y py] (elt.ListComp [{ target := tg, iter := iter, ifs := ifs, is_async := 0 }] scope pos) spos) (mSet i (mComp mu (own.map (·.2)) t src mc me)) := by
  obtain ⟨wi, hi2, src'⟩ := hs.ex
  refine ps_imp (ps_setLc (g := tgM X.K cm js t) (tt := teG X.K cm rEq W0 mc) (te := teG X.K cm (Rep X.K cm) W0 me) hc hN hi hl hsw hi2 hb hg ht he hf) fun E σ H ⟨F, ι, env, s, w, r, q⟩ => ?_
  show tLc wi _ _ _ _ σ H _
  exact comp_imp hown src' ⟨F, ι, env, s, w, r, (toS_split r q).imp fun v H1 ⟨F1, ι1, d, s1, le, ge, w1, rd, q1⟩ => q1 F1 ι1 H1 _ .refl .refl w1 ((r.mono le ge).set rd i)⟩
end
/-! ### a def of the text -/
/-- a body's end as a def's result -/
def SR.res : SR → Res D
  | .ret d s => .ok d s
  | .next _ s => .ok .non s
  | .exc x _ s => .exc x s
  | _ => .bad
def fnM (n : Nat) (m : MS) : FM := fun ds s => (m (ds.map some ++ List.replicate n none) s).res
theorem repE_start {K : PySem.W.Frag} {cm : Str → Option Addr} {F : Hp} {ι : Io} {ds : List D} {vs : List V} (r : RepL K cm F ι ds vs) {N : List Str} (n : Nat) (hn : N.length - vs.length = n) : RepE K cm F ι (ds.map some ++ List.replicate n none) (L2.start N vs) := by
  refine ⟨by unfold L2.start; simp [r.length, hn], fun i d h => ?_⟩
  by_cases hi : i < ds.length
  · rw [List.getElem?_append_left (by simpa using hi), List.getElem?_map] at h
    have h' : ds[i]? = some d := by
      cases e : ds[i]? with
      | none => rw [e] at h; cases h
      | some x => rw [e] at h; simpa using h
    obtain ⟨v, e, rv⟩ := r.get h'
    refine ⟨v, ?_, rv⟩
    unfold L2.start
    rw [List.getElem?_append_left (by rw [List.length_map, ← r.length]; exact hi), List.getElem?_map, e]
    rfl
  · rw [List.getElem?_append_right (by simpa using hi), List.getElem?_replicate] at h
    split at h <;> simp at h
section
variable {P : Program} {w : World} {K : PySem.W.Frag} {mg : Str → Option Value} {base : Heap} {cm : Str → Option Addr} {x : Str} {st : Stmt} {N ps : List Str} {k n : Nat}
theorem run_body {X : Cx} {F : Hp} {ι : Io} {ds : List D} {s : Sto} {H : Hp} {vs : List V} {m : MS} {Q : VK} {E : XK} (hK : X.K = K) (hn : N.length - vs.length = n) (wd : Wd K cm F ι s H) (r : RepL K cm F ι ds vs) (q : PostC K cm F ι (fnM n m ds s) Q E) :
    tsM K cm (fun c d _ H => E c d H) m { nx := fun _ H' => Q .non H', rt := Q } (L2.start N vs) H := by
  refine ⟨F, ι, _, s, wd, repE_start r n hn, ?_⟩
  unfold fnM at q
  cases e : m (ds.map some ++ List.replicate n none) s with
  | ret d s1 => rw [e] at q; exact q
  | next e1 s1 => rw [e] at q; exact fun F1 ι1 H1 σ1 le ge w1 r1 => q F1 ι1 H1 _ le ge w1 .non
  | exc x e1 s1 => rw [e] at q; exact fun F1 ι1 H1 σ1 c dd le ge w1 r1 xr => q F1 ι1 H1 c dd le ge w1 xr
  | brk e1 s1 => rw [e] at q; exact q.elim
  | cont e1 s1 => rw [e] at q; exact q.elim
  | bad => rw [e] at q; exact q.elim
/-- THE RULE for a def: its body computes m -/
theorem fnD {m : MS} {a : Addr} {fd : FuncData} (FD : FunD K x x (defArgs st) (defBody st) (defScope st) [] [] a fd) (hm : mg x = some (.ref a)) (S : FnScope N ps (defScope st)) (hn : N.length - ps.length = n)
    (hb : ∀ (cdv : Value) (A : Around) (outer : List Env) (s : Shared) (H : Hp) (E : XK), Room k (A.deeper (PyProof.Rows.envOfC x (defScope st) s.heap.objs.size a cdv)) →
      Pss (cxOf (L2.CX P w) P w K mg base N x (defScope st) a cdv A outer s H E) cm (fun c d _ H => E c d H) (defBody st) m) : FnD P w K mg base cm x st ps (k + 1) (fnM n m) :=
  ⟨a, fd, FD, FunD.ok FD S (fun _ _ _ _ h => h.1) fun cdv A outer s H vs Q E hr h => ⟨_, hb cdv A outer s H E hr, by
    obtain ⟨hl, F, ι, ds, sto, wd, r, q⟩ := h
    exact run_body (X := cxOf (L2.CX P w) P w K mg base N x (defScope st) a cdv A outer s H E) rfl (by rw [hl]; exact hn) wd r q⟩, hm⟩
theorem takesF {cdv : Value} {A : Around} {outer : List Env} {s : Shared} {H : Hp} {E : XK} {a : Addr} : Takes (cxOf (L2.CX P w) P w K mg base N x (defScope st) a cdv A outer s H E) (fun c d _ H => E c d H) := takes_of rfl rfl rfl rfl
theorem passesF {cdv : Value} {A : Around} {outer : List Env} {s : Shared} {H : Hp} {E : XK} {a : Addr} : PassesOwn (model P w) (A.deeper (PyProof.Rows.envOfC x (defScope st) s.heap.objs.size a cdv)) (PyProof.Rows.envOfC x (defScope st) s.heap.objs.size a cdv) (cxOf (L2.CX P w) P w K mg base N x (defScope st) a cdv A outer s H E).xe := passes_of (X := cxOf (L2.CX P w) P w K mg base N x (defScope st) a cdv A outer s H E) rfl
/-- by a larger number of calls, by another word for the same function -/
theorem FnD.mono {f : FM} {j : Nat} (h : FnD P w K mg base cm x st ps j f) (hj : j ≤ k) : FnD P w K mg base cm x st ps k f := by
  obtain ⟨a, fd, h1, h2, h3⟩ := h.ex
  exact ⟨a, fd, h1, h2.mono hj, h3⟩
theorem FnD.to {f g : FM} (h : FnD P w K mg base cm x st ps k f) (e : ∀ ds s, g ds s ≠ .bad → f ds s = g ds s) : FnD P w K mg base cm x st ps k g := by
  obtain ⟨a, fd, h1, h2, h3⟩ := h.ex
  refine ⟨a, fd, h1, h2.imp fun vs H Q E ⟨hl, F, ι, ds, s, wd, r, q⟩ => ⟨hl, F, ι, ds, s, wd, r, ?_⟩, h3⟩
  rw [e ds s (fun z => by rw [z] at q; exact q)]
  exact q
end
end PM
end

/-! PmG -/
section
set_option Elab.async false
set_option linter.all false
set_option maxRecDepth 100000
set_option maxHeartbeats 4000000
/-! ### operations -/
namespace PM
open PySem L2
def addO (mu : Bool) : Op2
  | .int i, .int j, s => .ok (.int (i + j)) s
  | .str x, .str y, s => if x.length + y.length ≤ 1000000 then .ok (.str (x ++ y)) s else .bad
  | .lst xs, .lst ys, s => if xs.length + ys.length ≤ 1000000 then mkL mu (xs ++ ys) s else .bad
  | .tup xs, .tup ys, s => if xs.length + ys.length ≤ 1000000 then .ok (.tup (xs ++ ys)) s else .bad
  | _, _, _ => .bad
def subO : Op2
  | .int i, .int j, s => .ok (.int (i - j)) s
  | _, _, _ => .bad
def mulOk (i j : Int) : Bool := decide ((-(2 ^ 64) < i ∧ i < 2 ^ 64) ∨ (-(2 ^ 64) < j ∧ j < 2 ^ 64)) || decide (i.natAbs.log2 + j.natAbs.log2 < 1000000)
def mulO : Op2
  | .int i, .int j, s => if mulOk i j = true then .ok (.int (i * j)) s else .bad
  | _, _, _ => .bad
/-- x // y, y above nought -/
def fdivO : Op2
  | .int i, .int j, s => if 0 < j ∧ j.natAbs.log2 < 9000 then .ok (.int (i / j)) s else .bad
  | _, _, _ => .bad
def modO : Op2
  | .int i, .int j, s => if 0 < j then .ok (.int (i % j)) s else .bad
  | _, _, _ => .bad
def powO : Op2
  | .int i, .int j, s => if 0 ≤ j ∧ (Builtin.Int.intBits i : Int) * j ≤ 2 ^ 27 then .ok (.int (i ^ j.toNat)) s else .bad
  | _, _, _ => .bad
def negO : Op1
  | .int i, s => .ok (.int (-i)) s
  | _, _ => .bad
def ltO : Op2
  | .int i, .int j, s => .ok (.bl (decide (i < j))) s
  | _, _, _ => .bad
def leO : Op2
  | .int i, .int j, s => .ok (.bl (decide (i ≤ j))) s
  | _, _, _ => .bad
def gtO : Op2
  | .int i, .int j, s => .ok (.bl (decide (j < i))) s
  | _, _, _ => .bad
def geO : Op2
  | .int i, .int j, s => .ok (.bl (decide (j ≤ i))) s
  | _, _, _ => .bad
mutual
/-- the model's own data -/
def D.pd : D → Option PyData
  | .non => some .none
  | .bl b => some (.bool b)
  | .int i => some (.int i)
  | .str x => some (.str x)
  | .tup xs => (D.pdL xs).map .tuple
  | .lst xs => (D.pdL xs).map .list
  | _ => none
def D.pdL : List D → Option (List PyData)
  | [] => some []
  | x :: r => match x.pd, D.pdL r with
    | some d, some ds => some (d :: ds)
    | _, _ => none
end
def eqD (x y : D) (s : Sto) (k : Bool → Bool) : Res D := match x.pd, y.pd with
  | some d, some e => if SeqAt.shaped d = true ∧ SeqAt.shaped e = true then .ok (.bl (k (d.eqv e))) s else .bad
  | _, _ => .bad
def eqO : Op2 := fun x y s => eqD x y s id
def neO : Op2 := fun x y s => eqD x y s not
def D.isNon : D → Bool
  | .non => true
  | _ => false
def isNO : Op2
  | x, .non, s => .ok (.bl x.isNon) s
  | _, _, _ => .bad
def isNotNO : Op2
  | x, .non, s => .ok (.bl (!x.isNon)) s
  | _, _, _ => .bad
def ixO : Op2
  | .lst xs, .int i, s => (match atI xs i with
    | some d => .ok d s
    | none => .bad)
  | .tup xs, .int i, s => (match atI xs i with
    | some d => .ok d s
    | none => .bad)
  | .str z, .int i, s => if z.length ≤ 1000000 then (match atI z.cps.toList i with
    | some c => .ok (.str ⟨#[c]⟩) s
    | none => .bad) else .bad
  | .ref n, .int i, s => (match s[n]? with
    | some (.lst xs) => (match atI xs i with
      | some d => .ok d s
      | none => .bad)
    | _ => .bad)
  | _, _, _ => .bad
def cutD {α : Type} (xs : List α) (lo hi : Option Int) : List α := (xs.drop (HT.sIx xs.length 0 lo)).take (HT.sIx xs.length xs.length hi - HT.sIx xs.length 0 lo)
def slO (mu : Bool) : OpSl
  | .lst xs, lo, hi, s => mkL mu (cutD xs lo hi) s
  | .tup xs, lo, hi, s => .ok (.tup (cutD xs lo hi)) s
  | _, _, _, _ => .bad
section
variable {X : Cx} {cm : Str → Option Addr} {W : WX}
theorem add_lists' {prog : Program} {w : World} {A : Around} {E : Value → Shared → Prop} {s : Shared} {l b : Addr} {vs ws : List Value} {Q : Value → Shared → Prop} (hl : s.heap.IsList l vs.toArray) (hb : s.heap.IsList b ws.toArray)
    (h : Q (.ref s.heap.objs.size) { s with heap := s.heap.push { cls := .type "list", data := .seq (vs ++ ws).toArray } }) (hsz : vs.length + ws.length ≤ sizeLine) :
    wpAny (model prog w) A (binaryOp .Add (.ref l) (.ref b)) Q E s := by
  obtain ⟨⟨cls, dd, data, sl⟩, ho, hc, n, hd⟩ := id hl
  obtain ⟨⟨cls2, dd2, data2, sl2⟩, ho2, hc2, n2, hd2⟩ := id hb
  simp only at hc hd hc2 hd2
  subst hc hd hc2 hd2
  have e : vs.toArray ++ ws.toArray = (vs ++ ws).toArray := by simp
  refine concat_meets ⟨_, ho, rfl⟩ ⟨_, ho2, rfl⟩ noFill_list_add seq_list_add PySem.F.slot_list_add PySem.F.entry_list_add (PySem.F.args_list_add_2 _ _) (PyProof.Rows.list_addW l b vs.toArray ws.toArray n n2 dd dd2 sl sl2 (by simpa using hsz)) ⟨ho, ho2, ?_⟩
  rw [e]
  exact h
theorem op_catS : OpR X (binaryOp .Add) (fun x y H Q => ∃ l b xs zs, x = .ref l ∧ y = .ref b ∧ SqL X.K H l xs ∧ SqL X.K H b zs ∧ xs.length + zs.length ≤ sizeLine ∧ ∀ p, H p = none → Q (.ref p) (upd H p (.lst (xs ++ zs)))) := by
  intro pins s σ H x y v u Q I rx ry h
  obtain ⟨l, b, xs, zs, rfl, rfl, hH, hB, hz, q⟩ := h
  cases rx
  cases ry
  obtain ⟨its, r, p, _⟩ := I.list hH
  obtain ⟨its2, r2, p2, _⟩ := I.list hB
  have e1 := r.length
  have e2 := r2.length
  refine add_lists' p.isList p2.isList ?_ (by omega)
  exact ⟨.ref _, _, I.lnew (t' := s.toks) (r.append r2) (by rw [List.length_append]; omega), rfl, q _ I.fresh⟩
theorem o_add (mu : Bool) : OpS X cm W (binaryOp .Add) (addO mu) := by
  intro pins s σ H x y v u Q I rx ry h
  obtain ⟨F, ι, σ', a, b, st, w, ra, rb, q⟩ := h
  cases ra with
  | int i =>
    cases rb with
    | int j => exact op_add pins s σ H _ _ v u Q I rx ry ⟨i, j, rfl, rfl, q F ι H _ .refl .refl w (.int _)⟩
    | _ => exact q.elim
  | str i =>
    cases rb with
    | str j =>
      unfold addO at q
      by_cases c : i.length + j.length ≤ 1000000
      · simp only [c, if_true] at q
        exact op_add_str pins s σ H _ _ v u Q I rx ry ⟨i, j, rfl, rfl, small_line c, q F ι H _ .refl .refl w (.str _)⟩
      · simp only [c, if_false] at q; exact q.elim
    | _ => exact q.elim
  | @lst a vs xs hq hl =>
    cases rb with
    | @lst b ws ys hq2 hl2 =>
      unfold addO at q
      by_cases c : xs.length + ys.length ≤ 1000000
      · simp only [c, if_true] at q
        exact op_catS pins s σ H _ _ v u Q I rx ry ⟨a, b, vs, ws, rfl, rfl, Le.l w.sub hq, Le.l w.sub hq2, by rw [← hl.length, ← hl2.length]; exact small_line c, re_lst w (hl.append hl2) q⟩
      · simp only [c, if_false] at q; exact q.elim
    | _ => exact q.elim
  | @tup a vs xs hq hl =>
    cases rb with
    | @tup b ws ys hq2 hl2 =>
      unfold addO at q
      by_cases c : xs.length + ys.length ≤ 1000000
      · simp only [c, if_true] at q
        refine op_catA pins s σ H _ _ v u Q I rx ry ⟨a, b, vs, ws, rfl, rfl, Le.t w.sub hq, Le.t w.sub hq2, by rw [← hl.length, ← hl2.length]; exact small_line c, fun e => ?_, fun e e2 => ?_, fun e e2 p hp => ?_⟩
        · subst e
          cases hl
          exact q F ι H _ .refl .refl w (.tup hq2 hl2)
        · subst e2
          cases hl2
          have e : xs ++ [] = xs := List.append_nil _
          rw [e] at q
          exact q F ι H _ .refl .refl w (.tup hq hl)
        · have n := Le.new (o := .tup (vs ++ ws)) (w.fresh hp)
          exact q _ _ _ _ n .refl (w.frz hp) (.tup (SqT.of upd_same) ((hl.append hl2).mono n .refl))
      · simp only [c, if_false] at q; exact q.elim
    | _ => exact q.elim
  | _ => exact q.elim
theorem o_sub : OpS X cm W (binaryOp .Sub) subO := by
  intro pins s σ H x y v u Q I rx ry h
  obtain ⟨F, ι, σ', a, b, st, w, ra, rb, q⟩ := h
  cases ra with
  | int i =>
    cases rb with
    | int j => exact op_sub pins s σ H _ _ v u Q I rx ry ⟨i, j, rfl, rfl, q F ι H _ .refl .refl w (.int _)⟩
    | _ => exact q.elim
  | _ => exact q.elim
theorem o_mul : OpS X cm W (binaryOp .Mult) mulO := by
  intro pins s σ H x y v u Q I rx ry h
  obtain ⟨F, ι, σ', a, b, st, w, ra, rb, q⟩ := h
  cases ra with
  | int i =>
    cases rb with
    | int j =>
      unfold mulO at q
      by_cases c : mulOk i j = true
      · simp only [c, if_true] at q
        have q := q F ι H _ .refl .refl w (.int _)
        rcases Bool.or_eq_true_iff.mp c with c | c
        · exact op_mul pins s σ H _ _ v u Q I rx ry ⟨i, j, rfl, rfl, (show (-(2 ^ 64) < i ∧ i < 2 ^ 64) ∨ (-(2 ^ 64) < j ∧ j < 2 ^ 64) from of_decide_eq_true c), q⟩
        · exact op_mulW pins s σ H _ _ v u Q I rx ry ⟨i, j, rfl, rfl, (show i.natAbs.log2 + j.natAbs.log2 < 1000000 from of_decide_eq_true c), q⟩
      · simp only [c, if_false] at q; exact q.elim
    | _ => exact q.elim
  | _ => exact q.elim
theorem o_fdiv : OpS X cm W (binaryOp .FloorDiv) fdivO := by
  intro pins s σ H x y v u Q I rx ry h
  obtain ⟨F, ι, σ', a, b, st, w, ra, rb, q⟩ := h
  cases ra with
  | int i =>
    cases rb with
    | int j =>
      unfold fdivO at q
      by_cases c : 0 < j ∧ j.natAbs.log2 < 9000
      · simp only [c, if_true] at q
        exact op_fdivW pins s σ H _ _ v u Q I rx ry ⟨i, j, rfl, rfl, c, q F ι H _ .refl .refl w (.int _)⟩
      · simp only [c, if_false] at q; exact q.elim
    | _ => exact q.elim
  | _ => exact q.elim
theorem o_mod : OpS X cm W (binaryOp .Mod) modO := by
  intro pins s σ H x y v u Q I rx ry h
  obtain ⟨F, ι, σ', a, b, st, w, ra, rb, q⟩ := h
  cases ra with
  | int i =>
    cases rb with
    | int j =>
      unfold modO at q
      by_cases c : 0 < j
      · simp only [c, if_true] at q
        exact op_mod pins s σ H _ _ v u Q I rx ry ⟨i, j, rfl, rfl, c, q F ι H _ .refl .refl w (.int _)⟩
      · simp only [c, if_false] at q; exact q.elim
    | _ => exact q.elim
  | _ => exact q.elim
theorem o_pow : OpS X cm W (binaryOp .Pow) powO := by
  intro pins s σ H x y v u Q I rx ry h
  obtain ⟨F, ι, σ', a, b, st, w, ra, rb, q⟩ := h
  cases ra with
  | int i =>
    cases rb with
    | int j =>
      unfold powO at q
      by_cases c : 0 ≤ j ∧ (Builtin.Int.intBits i : Int) * j ≤ 2 ^ 27
      · simp only [c, and_self, if_true] at q
        have q := q F ι H _ .refl .refl w (.int _)
        obtain ⟨t, rfl⟩ := rx
        obtain ⟨t', rfl⟩ := ry
        exact PyProof.Rows.pow_int c.1 c.2 ⟨.int _, H, I.tok _, ⟨_, rfl⟩, q⟩
      · simp only [c, if_false] at q; exact q.elim
    | _ => exact q.elim
  | _ => exact q.elim
theorem o_neg : UnR X (unaryOp .USub) (rU1 X.K cm W negO) := by
  intro pins s σ H x v Q I rx h
  obtain ⟨F, ι, σ', a, st, w, ra, q⟩ := h
  cases ra with
  | int i => exact un_neg pins s σ H _ v Q I rx ⟨i, rfl, q F ι H _ .refl .refl w (.int _)⟩
  | _ => exact q.elim
theorem o_lt : OpS X cm W (compareOp .Lt) ltO := by
  intro pins s σ H x y v u Q I rx ry h
  obtain ⟨F, ι, σ', a, b, st, w, ra, rb, q⟩ := h
  cases ra with
  | int i =>
    cases rb with
    | int j => exact op_lt pins s σ H _ _ v u Q I rx ry ⟨i, j, rfl, rfl, q F ι H _ .refl .refl w (.bl _)⟩
    | _ => exact q.elim
  | _ => exact q.elim
theorem o_le : OpS X cm W (compareOp .LtE) leO := by
  intro pins s σ H x y v u Q I rx ry h
  obtain ⟨F, ι, σ', a, b, st, w, ra, rb, q⟩ := h
  cases ra with
  | int i =>
    cases rb with
    | int j => exact op_le pins s σ H _ _ v u Q I rx ry ⟨i, j, rfl, rfl, q F ι H _ .refl .refl w (.bl _)⟩
    | _ => exact q.elim
  | _ => exact q.elim
theorem o_gt : OpS X cm W (compareOp .Gt) gtO := by
  intro pins s σ H x y v u Q I rx ry h
  obtain ⟨F, ι, σ', a, b, st, w, ra, rb, q⟩ := h
  cases ra with
  | int i =>
    cases rb with
    | int j => exact op_gt pins s σ H _ _ v u Q I rx ry ⟨i, j, rfl, rfl, q F ι H _ .refl .refl w (.bl _)⟩
    | _ => exact q.elim
  | _ => exact q.elim
theorem o_ge : OpS X cm W (compareOp .GtE) geO := by
  intro pins s σ H x y v u Q I rx ry h
  obtain ⟨F, ι, σ', a, b, st, w, ra, rb, q⟩ := h
  cases ra with
  | int i =>
    cases rb with
    | int j => exact op_ge pins s σ H _ _ v u Q I rx ry ⟨i, j, rfl, rfl, q F ι H _ .refl .refl w (.bl _)⟩
    | _ => exact q.elim
  | _ => exact q.elim
mutual
theorem Rep.dp {K : PySem.W.Frag} {F H : Hp} {ι : Io} (le : Le F H) : ∀ {d : D} {v : V} {e : PyData}, Rep K cm F ι d v → d.pd = some e → Dp K H v e
  | _, _, _, .non, h => by cases h; exact .non
  | _, _, _, .bl b, h => by cases h; exact .bl b
  | _, _, _, .int i, h => by cases h; exact .int i
  | _, _, _, .str i, h => by cases h; exact .str i
  | _, _, _, .ty _, h => by cases h
  | _, _, _, .cls _, h => by cases h
  | _, _, _, .ref _, h => by cases h
  | _, _, _, .ins _ _ _, h => by cases h
  | _, _, _, .tup (ds := ds) hq hl, h => by
    simp only [D.pd] at h
    cases e : D.pdL ds with
    | none => rw [e] at h; cases h
    | some es => rw [e] at h; cases h; exact .tup (le.t hq) (RepL.dp le hl e)
  | _, _, _, .lst (ds := ds) hq hl, h => by
    simp only [D.pd] at h
    cases e : D.pdL ds with
    | none => rw [e] at h; cases h
    | some es => rw [e] at h; cases h; exact .lst (le.l hq) (RepL.dp le hl e)
theorem RepL.dp {K : PySem.W.Frag} {F H : Hp} {ι : Io} (le : Le F H) : ∀ {ds : List D} {vs : List V} {es : List PyData}, RepL K cm F ι ds vs → D.pdL ds = some es → DpAll K H vs es
  | _, _, _, .nil, h => by cases h; exact .nil
  | _, _, _, .cons (d := d) (ds := ds) r t, h => by
    simp only [D.pdL] at h
    cases e : d.pd with
    | none => rw [e] at h; cases h
    | some x =>
      cases e2 : D.pdL ds with
      | none => rw [e, e2] at h; cases h
      | some es => rw [e, e2] at h; cases h; exact .cons (Rep.dp le r e) (RepL.dp le t e2)
end
theorem o_eq (hu : X.A.units + 64 < cLine) : OpS X cm W (compareOp .Eq) eqO := by
  intro pins s σ H x y v u Q I rx ry h
  obtain ⟨F, ι, σ', a, b, st, w, ra, rb, q⟩ := h
  unfold eqO eqD at q
  cases ea : a.pd with
  | none => simp only [ea] at q; exact q.elim
  | some d =>
    cases eb : b.pd with
    | none => simp only [ea, eb] at q; exact q.elim
    | some e =>
      simp only [ea, eb] at q
      by_cases c : SeqAt.shaped d = true ∧ SeqAt.shaped e = true
      · simp only [c, and_self, if_true] at q
        exact op_eqD hu pins s σ H _ _ v u Q I rx ry ⟨d, e, ra.dp w.sub ea, rb.dp w.sub eb, c.1, c.2, q F ι H _ .refl .refl w (.bl _)⟩
      · simp only [c, if_false] at q; exact q.elim
theorem o_ne (hu : X.A.units + 64 < cLine) : OpS X cm W (compareOp .NotEq) neO := by
  intro pins s σ H x y v u Q I rx ry h
  obtain ⟨F, ι, σ', a, b, st, w, ra, rb, q⟩ := h
  unfold neO eqD at q
  cases ea : a.pd with
  | none => simp only [ea] at q; exact q.elim
  | some d =>
    cases eb : b.pd with
    | none => simp only [ea, eb] at q; exact q.elim
    | some e =>
      simp only [ea, eb] at q
      by_cases c : SeqAt.shaped d = true ∧ SeqAt.shaped e = true
      · simp only [c, and_self, if_true] at q
        exact op_neD hu pins s σ H _ _ v u Q I rx ry ⟨d, e, ra.dp w.sub ea, rb.dp w.sub eb, c.1, c.2, q F ι H _ .refl .refl w (.bl _)⟩
      · simp only [c, if_false] at q; exact q.elim
theorem rep_non {K : PySem.W.Frag} {F : Hp} {ι : Io} {d : D} {v : V} (r : Rep K cm F ι d v) : decide (v = .non) = d.isNon := by
  cases r <;> simp [D.isNon]
theorem o_isN : OpS X cm W (compareOp .Is) isNO := by
  intro pins s σ H x y v u Q I rx ry h
  obtain ⟨F, ι, σ', a, b, st, w, ra, rb, q⟩ := h
  cases rb with
  | non =>
    unfold isNO at q
    refine op_isN pins s σ H _ _ v u Q I rx ry ⟨rfl, ?_⟩
    rw [rep_non ra]
    exact q F ι H _ .refl .refl w (.bl _)
  | _ => unfold isNO at q; exact q.elim
theorem o_isNotN : OpS X cm W (compareOp .IsNot) isNotNO := by
  intro pins s σ H x y v u Q I rx ry h
  obtain ⟨F, ι, σ', a, b, st, w, ra, rb, q⟩ := h
  cases rb with
  | non =>
    unfold isNotNO at q
    refine op_notN pins s σ H _ _ v u Q I rx ry ⟨rfl, ?_⟩
    rw [rep_non ra]
    exact q F ι H _ .refl .refl w (.bl _)
  | _ => unfold isNotNO at q; exact q.elim
theorem atI_rep {K : PySem.W.Frag} {F : Hp} {ι : Io} {ds : List D} {vs : List V} {i : Int} {d : D} (r : RepL K cm F ι ds vs) (h : atI ds i = some d) : ∃ v, atI vs i = some v ∧ Rep K cm F ι d v := by
  unfold atI at h ⊢
  rw [← r.length]
  cases e : ixN ds.length i with
  | none => rw [e] at h; cases h
  | some j =>
    rw [e] at h
    exact r.get h
theorem o_ix : IxR X (rO X.K cm W ixO) := by
  intro value slice pins s σ H x y v u Q I rx ry h hs
  obtain ⟨F, ι, σ', a, b, st, w, ra, rb, q⟩ := h
  cases ra with
  | @lst a vs xs hq hl =>
    cases rb with
    | int i =>
      unfold ixO at q
      cases e : atI xs i with
      | none => simp only [e] at q; exact q.elim
      | some d =>
        simp only [e] at q
        obtain ⟨z, h1, h2⟩ := atI_rep hl e
        exact ix_list value slice pins s σ H _ _ v u Q I rx ry ⟨a, vs, i, z, rfl, rfl, Le.l w.sub hq, h1, q F ι H _ .refl .refl w h2⟩ hs
    | _ => exact q.elim
  | @tup a vs xs hq hl =>
    cases rb with
    | int i =>
      unfold ixO at q
      cases e : atI xs i with
      | none => simp only [e] at q; exact q.elim
      | some d =>
        simp only [e] at q
        obtain ⟨z, h1, h2⟩ := atI_rep hl e
        exact ix_tup value slice pins s σ H _ _ v u Q I rx ry ⟨a, vs, i, z, rfl, rfl, Le.t w.sub hq, h1, q F ι H _ .refl .refl w h2⟩ hs
    | _ => exact q.elim
  | str z =>
    cases rb with
    | int i =>
      unfold ixO at q
      by_cases c : z.length ≤ 1000000
      · simp only [c, if_true] at q
        cases e : atI z.cps.toList i with
        | none => simp only [e] at q; exact q.elim
        | some k =>
          simp only [e] at q
          exact ix_str value slice pins s σ H _ _ v u Q I rx ry ⟨z, i, k, rfl, rfl, small_line c, e, q F ι H _ .refl .refl w (.str _)⟩ hs
      · simp only [c, if_false] at q; exact q.elim
    | _ => exact q.elim
  | @ref n a hn =>
    cases rb with
    | int i =>
      unfold ixO at q
      cases es : st[n]? with
      | none => simp only [es] at q; exact q.elim
      | some mo =>
        cases mo with
        | ins _ _ => simp only [es] at q; exact q.elim
        | lst xs =>
          simp only [es] at q
          obtain ⟨vs, e1, hl⟩ := w.cur n _ a es hn
          cases e : atI xs i with
          | none => simp only [e] at q; exact q.elim
          | some d =>
            simp only [e] at q
            obtain ⟨z, h1, h2⟩ := atI_rep hl e
            exact ix_list value slice pins s σ H _ _ v u Q I rx ry ⟨a, vs, i, z, rfl, rfl, SqL.of e1, h1, q F ι H _ .refl .refl w h2⟩ hs
    | _ => exact q.elim
  | _ => exact q.elim
theorem RepL.cut {K : PySem.W.Frag} {F : Hp} {ι : Io} {ds : List D} {vs : List V} (r : RepL K cm F ι ds vs) (lo hi : Option Int) : RepL K cm F ι (cutD ds lo hi) (cutV vs lo hi) := by
  unfold cutD cutV
  rw [r.length]
  exact (r.drop _).take _
theorem o_sl (mu : Bool) : SlR X (rS1 X.K cm W (slO mu)) := by
  intro pins s σ H x v vl vu lo hi sl Q I rx hs pl pu h
  obtain ⟨F, ι, σ', a, st, w, ra, q⟩ := h
  cases ra with
  | @lst a vs xs hq hl => exact sl_list pins s σ H _ v vl vu lo hi sl Q I rx hs pl pu ⟨a, vs, rfl, Le.l w.sub hq, re_lst w (hl.cut lo hi) q⟩
  | @tup a vs xs hq hl =>
    refine sl_tupA pins s σ H _ v vl vu lo hi sl Q I rx hs pl pu ⟨a, vs, rfl, Le.t w.sub hq, fun z => ?_, fun z p hp => ?_⟩
    · refine q F ι H _ .refl .refl w (.tup hq ?_)
      have e : cutD xs lo hi = xs := by
        unfold cutD
        rw [hl.length, z.1, z.2, List.drop_zero, ← hl.length, Nat.sub_zero, List.take_length]
      rw [e]; exact hl
    · have n := Le.new (o := .tup (cutV vs lo hi)) (w.fresh hp)
      exact q _ _ _ _ n .refl (w.frz hp) (.tup (SqT.of upd_same) ((hl.cut lo hi).mono n .refl))
  | _ => exact q.elim
end
end PM
end

/-! PmH -/
section
set_option Elab.async false
set_option linter.all false
set_option maxRecDepth 100000
set_option maxHeartbeats 4000000
/-! ### an own __eq__: == and != -/
namespace PM
open PySem PySem.W L2
inductive DT where
  | b (n : String) | o (c : Str)
  deriving DecidableEq
def D.ty? : D → Option DT
  | .non => some (.b "NoneType")
  | .bl _ => some (.b "bool")
  | .int _ => some (.b "int")
  | .str _ => some (.b "str")
  | .tup _ => some (.b "tuple")
  | .lst _ => some (.b "list")
  | .ins c _ => some (.o c)
  | _ => none
def DTv (cm : Str → Option Addr) : DT → Value → Prop
  | .b n, u => u = .type n
  | .o c, u => ∃ C, cm c = some C ∧ u = .ref C
/-- an instance's class may be asked for its class -/
structure InsOk (K : PySem.W.Frag) (C : Addr) : Prop where
  cl : Cls K C
  ha : PySem.W.findIn K (.ref C) "__class__" = some (some (.builtin "object.__class__"))
  hn : PySem.W.specialIn K (.builtin "object.__class__") "__get__" = some (some (.builtin "getset_descriptor.__get__"))
  ht : PySem.W.takesIn K (.builtin "object.__class__") = some true
  hm : PySem.W.mroIn K C (.type "object") = some true
/-- what x's type is -/
theorem tyX_of {K : PySem.W.Frag} {cm : Str → Option Addr} {F H : Hp} {ι : Io} {d : D} {v : V} {t : DT} (hI : ∀ c C, cm c = some C → InsOk K C) (le : Le F H) (r : Rep K cm F ι d v) (h : d.ty? = some t) : ∃ u, DTv cm t u ∧ TyX K H v u := by
  cases r with
  | non => cases h; exact ⟨_, rfl, .base .non⟩
  | bl b => cases h; exact ⟨_, rfl, .base (.bl _)⟩
  | int b => cases h; exact ⟨_, rfl, .base (.int _)⟩
  | str b => cases h; exact ⟨_, rfl, .base (.str _)⟩
  | ty _ => cases h
  | cls _ => cases h
  | ref _ => cases h
  | xcl _ => cases h
  | exn0 _ => cases h
  | exn _ _ _ => cases h
  | tup hq hl =>
    cases h
    refine ⟨_, rfl, ?_⟩
    rcases le.t hq with (e | ⟨o, e⟩) | ⟨o, its, n, e, hc, _⟩
    · exact .base (.tup e)
    · exact .fTuple e
    · exact .kTuple e hc
  | lst hq hl =>
    cases h
    refine ⟨_, rfl, ?_⟩
    rcases le.l hq with (e | ⟨o, e⟩) | ⟨o, its, n, e, hc, _⟩
    · exact .base (.lst e)
    · exact .base (.frz e)
    · exact .kList e hc
  | ins h1 h2 _ =>
    cases h
    obtain ⟨a1, a2, a3, a4, a5⟩ := hI _ _ h1
    exact ⟨_, ⟨_, h1, rfl⟩, .base (.ins (le _ _ h2) a1 a2 a3 a4 a5)⟩
section
variable {M : Model} {A : Around} {E : Value → Shared → Prop} {s : Shared} {K : Frag} {x C f : Addr} {ox : Obj} {od : Option Obj} {name : Str}
theorem ifBound_B {id : String} {args : List Value} {Q : Option Value → Shared → Prop} (X : K.In s.heap) (I : InstAt s.heap x ox C od) (hs : findIn K (.ref C) name = some (some (.builtin id)))
    (hb : ∀ self, bindSpecial (.builtin id) self = pure (.builtin id, [self])) (h : wpAny M A (call (.builtin id) (.ref x :: args)) (fun v => Q (some v)) E s) : wpAny M A (callSpecialIfBound? (.ref x) name args) Q E s := by
  simp only [callSpecialIfBound?, bindSpecialIfBound?]
  refine wpAny_holding (wpAny_bind (wpAny_bind (wpAny_bind (I.type.here ((looks_findIn X hs).here ?_)))))
  refine wpAny_bind (wpAny_askSetting (wpAny_ite ?_))
  have fin : wpAny M A (call (.builtin id) ([.ref x] ++ args) >>= fun v => pure (some v)) Q E s := wpAny_bind (wpAny_mono h (fun v s' h' => wpAny_pure h') fun _ _ h' => h')
  split
  · exact wpAny_bind ((Looks.of_pure (hb _)).here (wpAny_pure (by exact fin)))
  · exact wpAny_tryCatch (wpAny_bind ((Looks.of_pure (hb _)).here (wpAny_pure (by exact fin))))
end
theorem slot_ne : Slot "object" "__ne__" "object.__ne__" :=
  .of (owner := "object") (n := "__ne__") (by rw [typeLookup_type, builtinLookup_eq_fast]; kernel_rfl) (by decide +kernel) (by decide +kernel) (by decide +kernel) (.inl (by decide +kernel)) (by rw [isSubtype_type]; kernel_rfl)
section
variable {prog : Program} {w : World} {A : Around} {E : Value → Shared → Prop} {s : Shared} {K : Frag} {x C f : Addr} {ox : Obj} {od : Option Obj}
open Builtin in
theorem call_ne {b : Value} {Q : Value → Shared → Prop} (hu : A.in1.units < cLine) (X : K.In s.heap) (I : InstAt s.heap x ox C od) (hm : mroIn K C (.type "object") = some true) (hr : findIn K (.ref C) "__eq__" = some (some (.ref f))) (hf : isFn K (.ref f) = true)
    (h : wpAny (model prog w) A.in1 (call (.ref f) [.ref x, b]) (fun v s' => ∃ k, v = .bool k ∧ Q (.bool (!k)) s') E s) : wpAny (model prog w) A (call (.builtin "object.__ne__") [.ref x, b]) Q E s := by
  refine wpAny_call (codeAny_call_builtin slot_ne.plain F.cmpEntry_ne (check_slot (i := "object.__ne__") (owner := "object") (n := "__ne__") (by decide +kernel) (by decide +kernel) (I.type.andThen (looks_mroIn X hm)) (F.cmpArgs_ne _ _) ?_))
  unfold Builtin.«object.__ne__»
  refine wpAny_bind (m := slotArgs "__ne__" 1 _) (wpAny_pure ?_)
  refine wpAny_bind (m := cRoomFor _ _) (wpAny_cRoomFor hu ?_)
  refine wpAny_bind (m := callSpecialIfBound? (.ref x) (Str.ofString "__eq__") _) (ifBound_K X I hr hf (wpAny_mono h (fun r s' hq => ?_) fun _ _ y => y))
  obtain ⟨k, rfl, q⟩ := hq
  refine wpAny_bind (m := truthy _) (wpAny_truthy_bool ?_)
  exact wpAny_pure q
/-- a != b by the inherited __ne__ -/
theorem ne_K {b tb : Value} {h₀ : Heap} {L : Addr} {m : Str → Option Value} {Q : Value → Shared → Prop} (hu : A.units + 2 < cLine) (F : PyProof.Rows.Fr h₀ L s.heap m) (X₀ : K.In h₀) (I : InstAt s.heap x ox C od) (hb : Looks (model prog w) s.heap (typeOf b) tb) (hn : notFirst K C tb = true)
    (hs : findIn K (.ref C) "__ne__" = some (some (.builtin "object.__ne__"))) (hm : mroIn K C (.type "object") = some true) (hr : findIn K (.ref C) "__eq__" = some (some (.ref f))) (hf : isFn K (.ref f) = true)
    (h : wpAny (model prog w) A.in1 (call (.ref f) [.ref x, b]) (fun v s' => ∃ k, v = .bool k ∧ Q (.bool (!k)) s') E s) : wpAny (model prog w) A (richCompare .NotEq (.ref x) b) Q E s := by
  have X := X₀.keeps F.keep
  have hu1 : A.in1.units < cLine := by show A.units + 1 < cLine; omega
  have one : wpAny (model prog w) A (tryCompare (.ref x) (cmpInfo .NotEq).2.1 b) (fun r s' => ∃ v, r = some v ∧ Q v s') E s := by
    unfold tryCompare
    refine wpAny_bind (ifBound_B X I hs slot_ne.bind (call_ne hu1 X I hm hr hf (wpAny_mono h (fun v s' hv => ?_) fun _ _ e => e)))
    obtain ⟨k, rfl, q⟩ := hv
    exact ⟨k, rfl, wpAny_pure ⟨_, rfl, q⟩⟩
  unfold richCompare
  simp only [oneThing_ref]
  refine wpAny_holding (wpAny_bind (wpAny_cRoomFor (by omega) ?_))
  refine wpAny_bind (I.type.here (wpAny_bind (hb.here ?_)))
  split
  · rename_i q
    have e : subIn K tb (.ref C) = some false := by
      rcases Bool.or_eq_true_iff.mp hn with e | e
      · rw [beq_iff_eq.mp e] at q; simp at q
      · exact beq_iff_eq.mp e
    refine wpAny_bind ((looks_subIn X e).here ?_)
    simp only [Bool.false_eq_true, if_false]
    refine wpAny_bind (wpAny_mono one (fun r s' z => ?_) fun _ _ e => e)
    obtain ⟨v, rfl, hq⟩ := z
    exact wpAny_pure hq
  · refine wpAny_bind (wpAny_pure ?_)
    simp only [Bool.false_eq_true, if_false]
    refine wpAny_bind (wpAny_mono one (fun r s' z => ?_) fun _ _ e => e)
    obtain ⟨v, rfl, hq⟩ := z
    exact wpAny_pure hq
end
/-- what a class with an own __eq__ must have -/
structure EqOk (P : Program) (w : World) (K : PySem.W.Frag) (mg : Str → Option Value) (base : Heap) (cm : Str → Option Addr) (k : Nat) (C : Addr) (f : FM) : Prop where
  ex : ∃ a fd ps, FnOk P w K mg base (L2.CX P w) k a fd ps (spM K cm 2 f) ∧ Binds K fd ps [] ∧ findIn K (.ref C) "__eq__" = some (some (.ref a)) ∧ isFn K (.ref a) = true
  ne : findIn K (.ref C) "__ne__" = some (some (.builtin "object.__ne__"))
  hm : mroIn K C (.type "object") = some true
  nf : ∀ t u, DTv cm t u → (∀ n, t = .b n → n ∈ ["NoneType", "bool", "int", "str", "tuple", "list"]) → notFirst K C u = true
def ownEq (k : Bool → Bool) (f : FM) (x y : D) (s : Sto) : Res D := match f [x, y] s with
  | .ok (.bl b) s' => .ok (.bl (k b)) s'
  | _ => .bad
def eqX (oe : Str → Option FM) : Op2 := fun x y s => match x with
  | .ins c _ => (match oe c with
    | some f => if y.ty?.isSome = true then ownEq id f x y s else .bad
    | none => .bad)
  | _ => eqO x y s
def neX (oe : Str → Option FM) : Op2 := fun x y s => match x with
  | .ins c _ => (match oe c with
    | some f => if y.ty?.isSome = true then ownEq not f x y s else .bad
    | none => .bad)
  | _ => neO x y s
section
variable {X : Cx} {cm : Str → Option Addr} {W : WX} {oe : Str → Option FM} {k : Nat}
theorem looksTy {pins : List (Addr × Obj)} {σ : L2.St} {H : Hp} {s : Shared} {M : Model} {v : V} {u t : Value} (I : L2.Inv X pins σ H s) (r : RelV v u) (ty : TyX X.K H v t) : Looks M s.heap (typeOf u) t := by
  cases ty with
  | base b =>
    cases b with
    | non => cases (show u = Value.none from r); exact Looks.of_pure (by kernel_rfl)
    | bl y => cases (show u = Value.bool y from r); exact Looks.of_pure (by kernel_rfl)
    | int i => obtain ⟨t, q⟩ := (show ∃ t, u = Value.int i t from r); cases q; exact Looks.of_pure (by kernel_rfl)
    | str y => obtain ⟨t, q⟩ := (show ∃ t, u = Value.str y t from r); cases q; exact Looks.of_pure (by kernel_rfl)
    | flt y => obtain ⟨t, q⟩ := (show ∃ t, u = Value.float y t from r); cases q; exact Looks.of_pure (by kernel_rfl)
    | @lst a xs ea =>
      cases (show u = Value.ref a from r)
      obtain ⟨_, _, n, _, h1⟩ := (show ObjOk X.prog X.w H s.heap a (.lst xs) from I.hok a _ ea)
      exact looksAt h1 rfl
    | @frz a ob xs ea =>
      cases (show u = Value.ref a from r)
      obtain ⟨_, _, _, n, _, h1⟩ := (show ObjOk X.prog X.w H s.heap a (.frz ob (.lst xs)) from I.hok a _ ea)
      exact looksAt h1 rfl
    | @tup a xs ea =>
      cases (show u = Value.ref a from r)
      obtain ⟨_, _, _, o, h1, h2, _⟩ := (show ObjOk X.prog X.w H s.heap a (.tup xs) from I.hok a _ ea)
      exact looksAt h1 h2
    | @dK a kvs ea =>
      cases (show u = Value.ref a from r)
      obtain ⟨_, _, vs, _, o, es, ep, h1, h2, _⟩ := (show ObjOk X.prog X.w H s.heap a (.dK kvs) from I.hok a _ ea)
      exact looksAt h1 h2.1
    | @dT a kvs ea =>
      cases (show u = Value.ref a from r)
      obtain ⟨_, _, xs, _, o, es, ep, h1, h2, _⟩ := (show ObjOk X.prog X.w H s.heap a (.dT kvs) from I.hok a _ ea)
      exact looksAt h1 h2.1
    | @ins a C dx fs ea cl ha hn htk hm =>
      cases (show u = Value.ref a from r)
      obtain ⟨mA, O, _⟩ := ins_get I.hok ea
      obtain ⟨od, J, _⟩ := O.look
      exact J.type
  | byt y => obtain ⟨t, q⟩ := (show ∃ t, u = Value.bytes y t from r); cases q; exact Looks.of_pure (by kernel_rfl)
  | @set a S n ea =>
    cases (show u = Value.ref a from r)
    obtain ⟨o, _, _, _, e, ex, _⟩ := I.hok a _ ea
    exact looksAt e ex.1
  | @kList a o e c =>
    cases (show u = Value.ref a from r)
    exact looksAt (I.kIn a o e) c
  | @kTuple a o e c =>
    cases (show u = Value.ref a from r)
    exact looksAt (I.kIn a o e) c
  | @kDict a o e c =>
    cases (show u = Value.ref a from r)
    exact looksAt (I.kIn a o e) c
  | @fTuple a ob xs ea =>
    cases (show u = Value.ref a from r)
    obtain ⟨_, _, _, _, o, h1, h2, _⟩ := (show ObjOk X.prog X.w H s.heap a (.frz ob (.tup xs)) from I.hok a _ ea)
    exact looksAt h1 h2
  | @fDict a ob kvs ea =>
    cases (show u = Value.ref a from r)
    obtain ⟨_, _, _, vs, _, o, es, ep, h1, h2, _⟩ := (show ObjOk X.prog X.w H s.heap a (.frz ob (.dK kvs)) from I.hok a _ ea)
    exact looksAt h1 h2.1
where looksAt {h : Heap} {M : Model} {a : Addr} {o : Obj} {t : Value} (e : h.get? a = some o) (c : o.cls = t) : Looks M h (typeOf (.ref a)) t := c ▸ (Looks.ld e).andThen .now
theorem ty_in {d : D} : ∀ n, d.ty? = some (.b n) → n ∈ ["NoneType", "bool", "int", "str", "tuple", "list"] := fun n h => by
  cases d <;> simp [D.ty?] at h <;> subst h <;> simp
/-- the own __eq__ is called -/
theorem run_eq {A : Around} {pins : List (Addr × Obj)} {s : Shared} {σ σ' : L2.St} {H F : Hp} {ι : Io} {st : Sto} {c : Str} {fs : List (Str × D)} {b : D} {x y : V} {v u : Value} {f : FM} {kb : Bool → Bool} {Q : VK} {C : Addr} (hC : cm c = some C)
    (hE : EqOk X.prog X.w X.K X.mg X.base cm k C f) (hr : Room k A) (hfr : A.frames = X.A.frames) (I : L2.Inv X pins σ H s) (rx : RelV x v) (ry : RelV y u) (w : Wd X.K cm F ι st H) (ra : Rep X.K cm F ι (.ins c fs) x) (rb : Rep X.K cm F ι b y)
    (q : PostG X.K cm (Rep X.K cm) W F ι σ' (ownEq kb f (.ins c fs) b st) Q) : ∃ a, findIn X.K (.ref C) "__eq__" = some (some (.ref a)) ∧ isFn X.K (.ref a) = true ∧
      wpAny (model X.prog X.w) A (call (.ref a) [v, u]) (fun z s' => ∃ r, z = .bool r ∧ EP X pins σ Q (.bool (kb r)) s') X.xe s := by
  obtain ⟨a, fd, ps, h1, h2, h3, h4⟩ := hE.ex
  refine ⟨a, h3, h4, ?_⟩
  unfold ownEq at q
  have hsp : spM X.K cm 2 f [x, y] H (fun z H' => ∃ r, z = .bl r ∧ Q (.bl (kb r)) H') (fun _ _ _ => False) := by
    refine ⟨rfl, F, ι, [.ins c fs, b], st, w, .cons ra (.cons rb .nil), ?_⟩
    cases e : f [.ins c fs, b] st with
    | bad => rw [e] at q; exact q.elim
    | exc _ _ => rw [e] at q; exact q.elim
    | ok d s1 =>
      rw [e] at q
      intro F1 ι1 H1 z le ge w1 rz
      cases rz with
      | bl r => exact ⟨r, rfl, q F1 ι1 H1 _ le ge w1 (.bl _)⟩
      | _ => exact q.elim
  have e0 : Env0 X.prog X.w X.K X.mg X.base A X.stack s H := by
    have e := I.env0
    exact ⟨by rw [hfr]; exact e.frames, e.mod, e.bs, e.bsz, e.funs, e.frf, e.hok, e.bare⟩
  have hl := h1.len _ _ _ _ hsp
  refine wpAny_call (codeAny_mono (h1.run A X.stack s H ⟨[v, u], []⟩ [v, u] [x, y] _ _ hr e0 (by
    have := h2 s [v, u] I.kIn (by simpa using hl)
    simpa using this) (.cons rx (.cons ry .nil)) hsp) fun r s' hq => ?_)
  cases r with
  | error e =>
    obtain ⟨_, _, _, _, _, _, _, _, _, _, _, _, z⟩ := hq
    exact z.elim
  | ok fl =>
    cases fl with
    | ret w =>
      obtain ⟨z, H', I', rz, r, ez, hQ⟩ := I.after hq
      subst ez
      cases rz
      exact ⟨r, rfl, ⟨.bl _, H', I', rfl, hQ⟩⟩
    | next => exact False.elim hq
    | brk => exact False.elim hq
    | cont => exact False.elim hq
theorem o_eqX (hI : ∀ c C, cm c = some C → InsOk X.K C) (hE : ∀ c f C, oe c = some f → cm c = some C → EqOk X.prog X.w X.K X.mg X.base cm k C f) (hr : Room k X.A) : OpS X cm W (compareOp .Eq) (eqX oe) := by
  intro pins s σ H x y v u Q I rx ry h
  obtain ⟨F, ι, σ', a, b, st, w, ra, rb, q⟩ := h
  cases ra with
  | @ins ad C dx c gs fs h1 h2 h3 =>
    unfold eqX at q
    cases e : oe c with
    | none => simp only [e] at q; exact q.elim
    | some f =>
      simp only [e] at q
      by_cases c2 : b.ty?.isSome = true
      · simp only [c2, if_true] at q
        obtain ⟨t, ht⟩ := Option.isSome_iff_exists.mp c2
        obtain ⟨tv, hd, htx⟩ := tyX_of hI w.sub rb ht
        have E := hE _ _ _ e h1
        cases (show v = Value.ref ad from rx)
        obtain ⟨mA, J, _⟩ := ins_get I.hok (w.sub _ _ h2)
        obtain ⟨od, J, _⟩ := J.look
        obtain ⟨m, hF⟩ := I.fr
        obtain ⟨fa, h4, h5, h6⟩ := run_eq h1 E hr rfl I (x := .ref ad) rfl ry w (.ins h1 h2 h3) rb q
        refine PySem.W.cmp_K (op := .Eq) (tb := tv) hr.units0 hF I.ok.mod.kin J (looksTy I ry htx) (E.nf t tv hd fun n hn => ty_in n (hn ▸ ht)) h4 h5 (thn h6 fun z s' ⟨r, ez, hq⟩ => ?_)
        subst ez
        exact hq
      · simp only [c2] at q; exact q.elim
  | _ => exact o_eq hr.units pins s σ H _ y v u Q I rx ry ⟨F, ι, σ', _, b, st, w, by first | exact .non | exact .bl _ | exact .int _ | exact .str _ | exact .ty _ | exact .cls (by assumption) | exact .ref (by assumption) | exact .tup (by assumption) (by assumption) | exact .lst (by assumption) (by assumption) | exact .xcl _ | exact .exn0 (by assumption) | exact .exn (by assumption) (by assumption) (by assumption), rb, q⟩
theorem o_neX (hI : ∀ c C, cm c = some C → InsOk X.K C) (hE : ∀ c f C, oe c = some f → cm c = some C → EqOk X.prog X.w X.K X.mg X.base cm k C f) (hr : Room (k + 1) X.A) : OpS X cm W (compareOp .NotEq) (neX oe) := by
  intro pins s σ H x y v u Q I rx ry h
  obtain ⟨F, ι, σ', a, b, st, w, ra, rb, q⟩ := h
  cases ra with
  | @ins ad C dx c gs fs h1 h2 h3 =>
    unfold neX at q
    cases e : oe c with
    | none => simp only [e] at q; exact q.elim
    | some f =>
      simp only [e] at q
      by_cases c2 : b.ty?.isSome = true
      · simp only [c2, if_true] at q
        obtain ⟨t, ht⟩ := Option.isSome_iff_exists.mp c2
        obtain ⟨tv, hd, htx⟩ := tyX_of hI w.sub rb ht
        have E := hE _ _ _ e h1
        cases (show v = Value.ref ad from rx)
        obtain ⟨mA, J, _⟩ := ins_get I.hok (w.sub _ _ h2)
        obtain ⟨od, J, _⟩ := J.look
        obtain ⟨m, hF⟩ := I.fr
        obtain ⟨fa, h4, h5, h6⟩ := run_eq (A := X.A.in1) h1 E hr.in1 rfl I (x := .ref ad) rfl ry w (.ins h1 h2 h3) rb q
        exact ne_K (tb := tv) (by have := hr.un; omega) hF I.ok.mod.kin J (looksTy I ry htx) (E.nf t tv hd fun n hn => ty_in n (hn ▸ ht)) E.ne E.hm h4 h5 h6
      · simp only [c2] at q; exact q.elim
  | _ => exact o_ne hr.units pins s σ H _ y v u Q I rx ry ⟨F, ι, σ', _, b, st, w, by first | exact .non | exact .bl _ | exact .int _ | exact .str _ | exact .ty _ | exact .cls (by assumption) | exact .ref (by assumption) | exact .tup (by assumption) (by assumption) | exact .lst (by assumption) (by assumption) | exact .xcl _ | exact .exn0 (by assumption) | exact .exn (by assumption) (by assumption) (by assumption), rb, q⟩
end
end PM
end

/-! PmI -/
section
set_option Elab.async false
set_option linter.all false
set_option maxRecDepth 100000
set_option maxHeartbeats 4000000
/-! ### instances made, isinstance, built-ins -/
namespace PM
open PySem L2
/-- the class x of the text: its __init__ (the statement st, its parameters ps, self among them) computes f -/
structure ClsD (P : Program) (w : World) (K : PySem.W.Frag) (mg : Str → Option Value) (base : Heap) (cm : Str → Option Addr) (x q : Str) (st : Stmt) (ps : List Str) (k : Nat) (f : FM) : Prop where
  ex : ∃ C a fd, mg x = some (.ref C) ∧ cm x = some C ∧ Mk K C a ∧ FunD K "__init__" q (defArgs st) (defBody st) (defScope st) [] [] a fd ∧ FnOk P w K mg base (L2.CX P w) k a fd ps (spM K cm ps.length f)
def mkObj (c : Str) (f : FM) (ds : List D) (s : Sto) : Res D := match f (.ref s.length :: ds) (s ++ [.ins c []]) with
  | .ok .non s' => (match s'[s.length]? with
    | some (.ins c' fs) => if c' = c then .ok (.ins c fs) (s'.take s.length) else .bad
    | _ => .bad)
  | .exc x s' => if D.pureF x.fs = true then .exc x (s'.take s.length) else .bad
  | _ => .bad
def mMake (c : Str) (f : FM) (m : M (List D)) : M D := fun e s => (m e s).bind fun ds s => mkObj c f ds s
def mMakeK (c : Str) (ix : List Nat) (f : FM) (m : M (List D)) : M D := fun e s => (m e s).bind fun ds s => mkObj c f (permL ix ds) s
section
variable {X : Cx} {cm : Str → Option Addr} {W : WX} {e : Expr} {es : List Expr} {pos : Pos} {m : M (List D)} {x q : Str} {p : Pos} {st : Stmt} {ps : List Str} {k : Nat} {f : FM}
theorem ge_take {ι ι' : Io} {x : Addr} {n : Nat} (g : Ge (ι.app x) ι') (hn : ι.l.length = n) : Ge ι (ι'.take n) := ⟨g.1, fun j a h => by
  have hj : j < ι.l.length := (List.getElem?_eq_some_iff.mp h).1
  have h2 := g.2 j a (show (ι.l ++ [x])[j]? = some a by rw [List.getElem?_append_left hj]; exact h)
  show (ι'.l.take n)[j]? = some a
  rw [List.getElem?_take_of_lt (by omega)]; exact h2⟩
theorem make_sp {K : PySem.W.Frag} {F : Hp} {ι : Io} {s : Sto} {σ : L2.St} {H : Hp} {C : Addr} {ds : List D} {vs : List V} {Q : VK} (hC : cm x = some C) (hl : ds.length + 1 = ps.length) (w : Wd K cm F ι s H) (r : RepL K cm F ι ds vs) (h : PostG K cm (Rep K cm) W F ι σ (mkObj x f ds s) Q) :
    ∀ ax dx, H ax = none → H dx = none → dx ≠ ax → spM K cm ps.length f (.ref ax :: vs) (upd (upd H dx (.own ax)) ax (.ins C dx [])) (fun v H2 => v = .non ∧ Q (.ref ax) H2) (WE W σ) := by
  intro ax dx nx nd ne
  have w1 := w.frz (o := .own ax) nd
  have nx1 : upd H dx (.own ax) ax = none := by rw [upd_ne (Ne.symm ne)]; exact nx
  have w2 := w1.new (o := .ins C dx []) (mo := .ins x []) nx1 ⟨C, dx, [], rfl, hC, .nil⟩ rfl
  have le1 : Le F (upd F dx (.own ax)) := Le.new (w.fresh nd)
  have hat : (ι.app ax).l[s.length]? = some ax := by
    show (ι.l ++ [ax])[s.length]? = some ax
    rw [List.getElem?_append_right (by rw [w.len]; exact Nat.le_refl _), w.len]
    simp
  refine ⟨by rw [List.length_cons, ← r.length]; exact hl, _, _, .ref s.length :: ds, _, w2, .cons (.ref hat) (r.mono le1 .app), ?_⟩
  unfold mkObj at h
  cases e : f (.ref s.length :: ds) (s ++ [.ins x []]) with
  | bad => rw [e] at h; exact h.elim
  | exc xx s' =>
    rw [e] at h
    dsimp only at h
    by_cases c : D.pureF xx.fs = true
    · rw [if_pos c] at h
      intro F1 ι1 H1 cc dd le ge wd xr
      refine h F1 (ι1.take s.length) H1 cc dd (le1.trans le) (ge_take ge w.len) (wd.pop _) ?_
      obtain ⟨h1, h3⟩ := xr
      refine ⟨h1, ?_⟩
      rcases h3 with h3 | ⟨dx', gs, h4, h5, h6⟩
      · exact .inl h3
      · exact .inr ⟨dx', gs, h4, h5, h6.pure .refl c⟩
    · rw [if_neg c] at h; exact h.elim
  | ok d s' =>
    rw [e] at h
    cases d with
    | non =>
      dsimp only at h
      intro F1 ι1 H1 v le ge wd rv
      have h1 : ι1.l[s.length]? = some ax := ge.2 _ _ hat
      cases rv
      refine ⟨rfl, ?_⟩
      cases e2 : s'[s.length]? with
      | none => rw [e2] at h; exact h.elim
      | some mo =>
        rw [e2] at h
        cases mo with
        | lst _ => exact h.elim
        | ins c' fs =>
          dsimp only at h
          by_cases c : c' = x
          · subst c
            rw [if_pos rfl] at h
            obtain ⟨C', dx', gs, h2, h3, h4⟩ := wd.cur _ _ ax e2 h1
            have nof : F1 ax = none := wd.nof ax (List.mem_of_getElem? h1)
            refine h (upd F1 ax (.ins C' dx' gs)) (ι1.take s.length) H1 _ (le1.trans (le.trans (Le.new nof))) (ge_take ge w.len) (wd.freeze (Nat.le_refl _) h1 h2) (.ins h3 upd_same (h4.pure (Le.new nof) (wd.pur _ _ e2)))
          · rw [if_neg c] at h; exact h.elim
    | _ => exact h.elim
theorem run_makeS {CX : CXT} {C fa : Addr} {fd : FuncData} {sp : Sp} {E : XK} {ks : List Str} {pins : List (Addr × Obj)} {σ : L2.St} {H : Hp} {s : Shared} {Q : VK} {us ws bs : List Value} {vs : List V} (M : Mk X.K C fa) (F : FnOk X.prog X.w X.K X.mg X.base CX k fa fd ps sp) (hr : Room (k + 1) X.A)
    (hx : ∀ (H : Hp) (s : Shared) (e : Value) (s' : Shared), L2.Inv X pins σ H s → CX X.stack H s E e s' → X.xe e s') (I : L2.Inv X pins σ H s) (r : Vals vs bs)
    (hb : ∀ (s1 : Shared) (a : Addr), X.K.In s1.heap → BindsTo s1 fd ⟨.ref a :: us, ks.zip ws⟩ (ps.zip (.ref a :: bs)))
    (h : ∀ x dx, H x = none → H dx = none → dx ≠ x → sp (.ref x :: vs) (upd (upd H dx (.own x)) x (.ins C dx [])) (fun v H2 => v = .non ∧ Q (.ref x) H2) E) :
    wpAny (model X.prog X.w) X.A (call (.ref C) us (ks.zip ws)) (EP X pins σ Q) X.xe s := by
  have hq := h (s.heap.objs.size + 1) s.heap.objs.size (I.hok.fresh (Nat.le_succ _)) (I.hok.fresh (Nat.le_refl _)) (Nat.ne_of_lt (Nat.lt_succ_self _))
  have I2 := Inv.made (C := C) I
  have r2 : Vals (V.ref (s.heap.objs.size + 1) :: vs) (Value.ref (s.heap.objs.size + 1) :: bs) := .cons rfl r
  refine wpAny_call (make_map (f := fa) I.kIn M.makes M.init (beq_iff_eq.mp M.fn) (codeAny_mono (F.run _ X.stack _ _ ⟨Value.ref (s.heap.objs.size + 1) :: us, ks.zip ws⟩ (Value.ref (s.heap.objs.size + 1) :: bs) _ _ E (hr.make C us (ks.zip ws))
    (I2.env0.make C us (ks.zip ws)) (hb _ _ I2.kIn) r2 hq) fun r s' hq' => ?_))
  cases r with
  | error e => exact hx _ _ e s' I2 hq'
  | ok fl =>
    cases fl with
    | ret u =>
      obtain ⟨v, H', I3, rv, ev, q3⟩ := I2.after hq'
      subst ev
      exact ⟨rv, ⟨V.ref (s.heap.objs.size + 1), H', I3, rfl, q3⟩⟩
    | next => exact False.elim hq'
    | brk => exact False.elim hq'
    | cont => exact False.elim hq'
/-- C(e, ..) -/
theorem qe_make (hF : ClsD X.prog X.w X.K X.mg X.base cm x q st ps k f) (hr : Room (k + 1) X.A) (tk : Takes X W) (ha : Pa X cm W (e :: es) m)
    (hb : ∀ (kV doc pm : Value) (an : Option Addr) (cdv ct : Value) (us : List Value), us.length = ps.length → bindArgs (PySem.W.fnOf "__init__" q (defArgs st) (defBody st) (defScope st) .none kV doc pm an cdv ct) ⟨us, []⟩ = pure (ps.zip us))
    (hlen : ∀ env s ds s', m env s = .ok ds s' → ds.length + 1 = ps.length)
    (hg : Gl X x := by rfl) (hdb : (x == ("__debug__" : Str)) = false := by decide) (he : starEach (e :: es) X.env = (false, eval e X.env) :: starEach es X.env := by rfl) (hpl : (backTo pos (starEach es X.env)).any (·.1) = false := by rfl) :
    Pe X cm W (.Call (.Name x p) (e :: es) [] pos) (mMake x f m) := by
  obtain ⟨C, a, fd, hm, hC, M, F1, F2⟩ := hF.ex
  refine ⟨fun pins s σ H Q I ⟨F, ι, env, sto, w, r, q⟩ => ?_⟩
  have q0 : teG X.K cm (RepL X.K cm) W m σ H fun vs H1 => vs.length + 1 = ps.length ∧ ∀ ax dx, H1 ax = none → H1 dx = none → dx ≠ ax → spM X.K cm ps.length f (.ref ax :: vs) (upd (upd H1 dx (.own ax)) ax (.ins C dx [])) (fun v H2 => v = .non ∧ Q (.ref ax) H2) (WE W σ) := by
    refine ⟨F, ι, env, sto, w, r, ?_⟩
    have hl := hlen env sto
    unfold mMake at q
    cases e1 : m env sto with
    | ok ds s1 =>
      rw [e1] at q
      intro F1 ι1 H1 vs le ge w1 rd
      exact ⟨by rw [← rd.length]; exact hl _ _ e1, make_sp hC (hl _ _ e1) w1 rd (PostG.mono le ge q)⟩
    | exc x s1 => rw [e1] at q; exact q
    | bad => rw [e1] at q; exact q
  refine wpAny_Call_Name_kw (ld_glob I hg hm ?_ hdb)
  refine PySem.W.callWith_K (h₀ := X.base) I.ok.mod.kin M.kp (thn (ha.run pos pins s σ H _ I q0) fun us s1 ⟨vs, H1, I1, r, l1, q⟩ => ⟨I1.kIn, ?_⟩) he hpl
  refine run_makeS (us := us) (ks := []) (ws := []) (bs := us) M F2 hr (fun H s e s' I c => passAt tk σ pins H s e s' I c) I1 r (fun s2 a kin => ?_) q
  obtain ⟨oc, od, dV, kV, doc, pm, an, cdv, ct, osl, rfl, lk, hcd, hD, hK⟩ := F1.ex
  rcases hD with ⟨_, rfl⟩ | ⟨z, _⟩
  · exact .of_eq (hb kV doc pm an cdv ct (.ref a :: us) (by rw [List.length_cons, ← r.length]; exact l1))
  · exact absurd rfl z
/-- C(k = e, ..) -/
theorem qe_makeK0 {kws : List Keyword} (ks : List Str) (ix : List Nat) (hF : ClsD X.prog X.w X.K X.mg X.base cm x q st ps k f) (hr : Room (k + 1) X.A) (tk : Takes X W) (hk : Pk X cm W kws m)
    (hb : ∀ (kV doc pm : Value) (an : Option Addr) (cdv ct : Value) (a : Value) (ws : List Value), ws.length = ks.length → bindArgs (PySem.W.fnOf "__init__" q (defArgs st) (defBody st) (defScope st) .none kV doc pm an cdv ct) ⟨[a], ks.zip ws⟩ = pure (ps.zip (a :: permL ix ws)))
    (hpn : ∀ ws : List D, ws.length = ks.length → (permL ix ws).length + 1 = ps.length)
    (hlen : ∀ env s ds s', m env s = .ok ds s' → ds.length = ks.length)
    (hg : Gl X x := by rfl) (hall : (backToKw pos (keywordEach kws X.env)).all (·.1.isSome) = true := by rfl) (hks : (backToKw pos (keywordEach kws X.env)).filterMap (·.1) = ks := by rfl) (hdb : (x == ("__debug__" : Str)) = false := by decide)
    (hpl : ((backTo pos (starEach [] X.env)).any (·.1) || (backToKw pos (keywordEach kws X.env)).any (·.1.isNone)) = false := by rfl) :
    Pe X cm W (.Call (.Name x p) [] kws pos) (mMakeK x ix f m) := by
  obtain ⟨C, a, fd, hm, hC, M, F1, F2⟩ := hF.ex
  refine ⟨fun pins s σ H Q I ⟨F, ι, env, sto, w, r, q⟩ => ?_⟩
  have q0 : teG X.K cm (RepL X.K cm) W m σ H fun vs H1 => vs.length = ks.length ∧ ∀ ax dx, H1 ax = none → H1 dx = none → dx ≠ ax → spM X.K cm ps.length f (.ref ax :: permL ix vs) (upd (upd H1 dx (.own ax)) ax (.ins C dx [])) (fun v H2 => v = .non ∧ Q (.ref ax) H2) (WE W σ) := by
    refine ⟨F, ι, env, sto, w, r, ?_⟩
    have hl := hlen env sto
    unfold mMakeK at q
    cases e1 : m env sto with
    | ok ds s1 =>
      rw [e1] at q
      intro F1 ι1 H1 vs le ge w1 rd
      exact ⟨by rw [← rd.length]; exact hl _ _ e1, make_sp hC (hpn _ (hl _ _ e1)) w1 (RepL.perm rd ix) (PostG.mono le ge q)⟩
    | exc x s1 => rw [e1] at q; exact q
    | bad => rw [e1] at q; exact q
  refine wpAny_Call_Name_kw (ld_glob I hg hm ?_ hdb)
  refine PySem.W.callWith_KW0 (h₀ := X.base) I.ok.mod.kin M.kp hall ?_ hpl
  refine thn (hk.run pos pins s σ H _ I q0) fun ws s2 ⟨zs, H2, I2, rz, l2, q2⟩ => ⟨I2.kIn, ?_⟩
  rw [hks]
  refine run_makeS (us := []) (ks := ks) (ws := ws) (bs := permL ix ws) M F2 hr (fun H s e s' I c => passAt tk σ pins H s e s' I c) I2 (Vals.perm rz ix) (fun s2 a kin => ?_) q2
  obtain ⟨oc, od, dV, kV, doc, pm, an, cdv, ct, osl, rfl, lk, hcd, hD, hK⟩ := F1.ex
  rcases hD with ⟨_, rfl⟩ | ⟨z, _⟩
  · exact .of_eq (hb kV doc pm an cdv ct (.ref a) ws (by rw [← rz.length]; exact l2))
  · exact absurd rfl z
end
/-! ### self.f = e within an __init__ -/
def putF' (f : Str) (d : D) : List (Str × D) → List (Str × D)
  | [] => [(f, d)]
  | (g, x) :: r => if g = f then (g, d) :: r else (g, x) :: putF' f d r
def putFld (f : Str) (o v : D) (e : Slots) (s : Sto) : SR := match o with
  | .ref n => (match s[n]? with
    | some (.ins c fs) => if v.pureB = true ∧ fs.length < 900 then .next e (s.set n (.ins c (putF' f v fs))) else .bad
    | _ => .bad)
  | _ => .bad
def mSetFld (f : Str) (a o : M D) : MS := fun e s => (a e s).toS e fun v s => (o e s).toS e fun o s => putFld f o v e s
theorem RepF.put {K : PySem.W.Frag} {cm : Str → Option Addr} {F : Hp} {ι : Io} {f : Str} {d : D} {v : V} (r : Rep K cm F ι d v) : ∀ {fs : List (Str × D)} {gs : List (Str × V)}, RepF K cm F ι fs gs → RepF K cm F ι (putF' f d fs) (putF f v gs)
  | _, _, .nil => .cons r .nil
  | _, _, .cons (f := g) q t => by
    unfold putF' putF
    by_cases h : g = f
    · rw [if_pos h, if_pos h]; exact .cons r t
    · rw [if_neg h, if_neg h]; exact .cons q (RepF.put r t)
theorem pure_put {f : Str} {d : D} (hd : d.pureB = true) : ∀ {fs : List (Str × D)}, D.pureF fs = true → D.pureF (putF' f d fs) = true
  | [], _ => by simp [putF', D.pureF, hd]
  | (g, x) :: r, h => by
    simp only [D.pureF, Bool.and_eq_true] at h
    unfold putF'
    split
    · simp [D.pureF, hd, h.2]
    · simp [D.pureF, h.1, pure_put hd h.2]
section
variable {X : Cx} {cm : Str → Option Addr} {W : WX} {o value : Expr} {pos pos' : Pos} {ma mb : M D}
theorem qs_fld {f : Str} (hf : FldOk X.K cm f) (ho : Pe X cm W o mb) (hv : Pe X cm W value ma) (hs : swapsWith value (some (.Attribute o f pos')) pos.line X.env = pure false := by rfl) : Ps X cm W (.Assign [.Attribute o f pos'] value pos) (mSetFld f ma mb) := ps_imp (ps_fld ho hv hs) fun E σ H ⟨F, ι, env, s, w, r, q⟩ => by
  refine ⟨F, ι, env, s, w, r, (toS_split r q).imp fun v H1 ⟨F1, ι1, d1, s1, le1, ge1, w1, r1, q1⟩ => ?_⟩
  refine ⟨F1, ι1, env, s1, w1, r.mono le1 ge1, (toS_split (r.mono le1 ge1) q1).imp fun ov H2 ⟨F2, ι2, d2, s2, le2, ge2, w2, r2, q2⟩ => ?_⟩
  cases r2 with
  | @ref n a hn =>
    unfold putFld at q2
    cases es : s2[n]? with
    | none => simp only [es] at q2; exact q2.elim
    | some mo =>
      cases mo with
      | lst _ => simp only [es] at q2; exact q2.elim
      | ins c fs =>
        simp only [es] at q2
        obtain ⟨C, dx, gs, h1, h2, h3⟩ := w2.cur n _ a es hn
        by_cases c2 : d1.pureB = true ∧ fs.length < 900
        · rw [if_pos c2] at q2
          have rd := r1.mono le2 ge2
          refine ⟨a, C, dx, gs, rfl, h1, (hf _ _ h2).1, (hf _ _ h2).2, by rw [← h3.length]; omega, ?_⟩
          exact q2 F2 ι2 _ σ .refl .refl (w2.put hn ⟨C, dx, _, rfl, h2, RepF.put rd h3⟩ (pure_put c2.1 (w2.pur n _ es))) ((r.mono le1 ge1).mono le2 ge2)
        · rw [if_neg c2] at q2; exact q2.elim
  | _ => exact q2.elim
end
/-! ### isinstance -/
abbrev Subs := DT → DT → Option Bool
def D.dt? : D → Option DT
  | .ty n => some (.b n)
  | .cls c => some (.o c)
  | _ => none
def SubOk (K : PySem.W.Frag) (cm : Str → Option Addr) (sub : Subs) : Prop := ∀ t u b tv uv, sub t u = some b → DTv cm t tv → DTv cm u uv → PySem.W.kitOne K tv uv = some b
def clsL : List D → Option (List DT)
  | [] => some []
  | c :: cs => match c.dt?, clsL cs with
    | some u, some us => some (u :: us)
    | _, _ => none
def anyS (sub : Subs) (t : DT) : List DT → Option Bool
  | [] => some false
  | u :: us => match sub t u with
    | some true => some true
    | some false => anyS sub t us
    | none => none
def isiO (sub : Subs) : OpL := fun ds s => match ds with
  | [x, c] => (match x.ty?, c.dt? with
    | some t, some u => (match sub t u with
      | some b => .ok (.bl b) s
      | none => .bad)
    | some t, none => (match c with
      | .tup cs => (match clsL cs with
        | some us => (match anyS sub t us with
          | some b => .ok (.bl b) s
          | none => .bad)
        | none => .bad)
      | _ => .bad)
    | _, _ => .bad)
  | _ => .bad
section
variable {X : Cx} {cm : Str → Option Addr} {W : WX}
theorem clsV_of {K : PySem.W.Frag} {F : Hp} {ι : Io} {d : D} {v : V} {u : DT} (r : Rep K cm F ι d v) (h : d.dt? = some u) : ∃ uv, DTv cm u uv ∧ ClsV v uv := by
  cases r with
  | ty n => cases h; exact ⟨_, rfl, .ty n⟩
  | cls h1 => cases h; exact ⟨_, ⟨_, h1, rfl⟩, .own _⟩
  | _ => cases h
theorem clsL_of {K : PySem.W.Frag} {F : Hp} {ι : Io} : ∀ {cs : List D} {vs : List V} {ts : List DT}, RepL K cm F ι cs vs → clsL cs = some ts → ∃ us, Paired ClsV vs us ∧ Paired (DTv cm) ts us
  | _, _, _, .nil, h => by cases h; exact ⟨[], .nil, .nil⟩
  | _, _, ts, .cons (d := c) (ds := cs) r rs, h => by
    unfold clsL at h
    cases e : c.dt? with
    | none => simp only [e] at h; cases h
    | some u =>
      cases e2 : clsL cs with
      | none => simp only [e, e2] at h; cases h
      | some us =>
        simp only [e, e2] at h
        cases h
        obtain ⟨uv, h1, h2⟩ := clsV_of r e
        obtain ⟨ws, h3, h4⟩ := clsL_of rs e2
        exact ⟨uv :: ws, .cons h2 h3, .cons h1 h4⟩
theorem anyS_ok {K : PySem.W.Frag} {sub : Subs} (hS : SubOk K cm sub) {t : DT} {tv : Value} (ht : DTv cm t tv) : ∀ {ts : List DT} {us : List Value} {b : Bool}, Paired (DTv cm) ts us → anyS sub t ts = some b → PySem.W.kitAny K tv us = some b
  | _, _, _, .nil, h => by cases h; rfl
  | u :: ts, _, b, .cons h1 hs, h => by
    unfold anyS at h
    cases e2 : sub t u with
    | none => rw [e2] at h; cases h
    | some k =>
      rw [e2] at h
      have h3 := hS _ _ _ _ _ e2 ht h1
      cases k with
      | true =>
        obtain rfl : true = b := Option.some.inj h
        exact kitAny_cons h3 (fun z => nomatch z) fun _ => rfl
      | false => exact kitAny_cons h3 (fun _ => anyS_ok hS ht hs h) fun z => nomatch z
theorem call_isiTT {x : V} {tp : Addr} {cs : List V} {t : Value} {us : List Value} {b : Bool} {pins : List (Addr × Obj)} {s : Shared} {σ : L2.St} {H : Hp} {u1 : Value} {Q : VK} (I : L2.Inv X pins σ H s) (r1 : RelV x u1) (hT : SqT X.K H tp cs) (k : Paired ClsV cs us) (ty : TyX X.K H x t) (e : PySem.W.kitAny X.K t us = some b) (q : Q (.bl b) H) :
    wpAny (model X.prog X.w) X.A (call (.builtin "isinstance") [u1, .ref tp]) (EP X pins σ Q) X.xe s := by
  obtain ⟨P, Z, p, hx⟩ := kit_of I r1 ty
  obtain ⟨its, rv, ⟨o, h1, h2, n, h3⟩, _⟩ := I.tuple hT
  have e3 := ClsV.all k rv
  subst e3
  obtain ⟨oc, od, dt, sl⟩ := o
  simp only at h2 h3
  subst h2 h3
  exact PySem.W.kia_tup Z I.kIn p h1 e hx fun tk => ⟨.bl b, H, I.tok tk, rfl, q⟩
theorem c_isi {sub : Subs} (hI : ∀ c C, cm c = some C → InsOk X.K C) (hS : SubOk X.K cm sub) : CallR X (.builtin "isinstance") (rC1 X.K cm W (isiO sub)) := by
  intro pins s σ H xs us Q I r h
  obtain ⟨F, ι, σ', ds, st, w, rd, q⟩ := h
  unfold isiO at q
  cases rd with
  | nil => exact q.elim
  | cons ra t =>
    cases t with
    | nil => exact q.elim
    | cons rb t =>
      cases t with
      | cons _ _ => exact q.elim
      | nil =>
        rename_i a va c vc
        cases e1 : a.ty? with
        | none => simp only [e1] at q; exact q.elim
        | some ta =>
          obtain ⟨tv, hd, htx⟩ := tyX_of hI w.sub ra e1
          cases e2 : c.dt? with
          | some tc =>
            simp only [e1, e2] at q
            cases e3 : sub ta tc with
            | none => simp only [e3] at q; exact q.elim
            | some b =>
              simp only [e3] at q
              obtain ⟨uv, h1, h2⟩ := clsV_of rb e2
              exact call_isi pins s σ H _ us Q I r ⟨va, vc, tv, uv, b, rfl, h2, htx, hS _ _ _ _ _ e3 hd h1, q F ι H _ .refl .refl w (.bl _)⟩
          | none =>
            simp only [e1, e2] at q
            cases rb with
            | tup hq hl =>
              dsimp only at q
              split at q
              · rename_i ts e4
                split at q
                · rename_i b e5
                  obtain ⟨ws, h3, h4⟩ := clsL_of hl e4
                  obtain ⟨u1, u2, rfl, r1, r2⟩ := vals2 r
                  cases (show u2 = Value.ref _ from r2)
                  exact call_isiTT I r1 (Le.t w.sub hq) h3 htx (anyS_ok hS hd h4 e5) (q F ι H _ .refl .refl w (.bl _))
                · exact q.elim
              · exact q.elim
            | _ => exact q.elim
/-! ### other built-ins -/
def intO : OpL := fun ds s => match ds with
  | [.int i] => .ok (.int i) s
  | [.bl b] => .ok (.int (if b then 1 else 0)) s
  | _ => .bad
theorem c_int : CallR X (.type "int") (rC1 X.K cm W intO) := by
  intro pins s σ H xs us Q I r h
  obtain ⟨F, ι, σ', ds, st, w, rd, q⟩ := h
  unfold intO at q
  cases rd with
  | nil => exact q.elim
  | cons ra t =>
    cases t with
    | cons _ _ => cases ra <;> exact q.elim
    | nil =>
      cases ra with
      | int i => exact call_int1 pins s σ H _ us Q I r (.inl ⟨i, rfl, q F ι H _ .refl .refl w (.int _)⟩)
      | bl b => exact call_int1 pins s σ H _ us Q I r (.inr ⟨b, rfl, q F ι H _ .refl .refl w (.int _)⟩)
      | _ => exact q.elim
def absO : OpL := fun ds s => match ds with
  | [.int i] => .ok (.int (if i < 0 then -i else i)) s
  | _ => .bad
theorem c_abs : CallR X (.builtin "abs") (rC1 X.K cm W absO) := by
  intro pins s σ H xs us Q I r h
  obtain ⟨F, ι, σ', ds, st, w, rd, q⟩ := h
  unfold absO at q
  cases rd with
  | nil => exact q.elim
  | cons ra t =>
    cases t with
    | cons _ _ => cases ra <;> exact q.elim
    | nil =>
      cases ra with
      | int i => exact call_abs pins s σ H _ us Q I r ⟨i, rfl, q F ι H _ .refl .refl w (.int _)⟩
      | _ => exact q.elim
def int2O (f : Int → Int → Int) : OpL := fun ds s => match ds with
  | [.int i, .int j] => .ok (.int (f i j)) s
  | _ => .bad
def maxI (i j : Int) : Int := if j > i then j else i
def minI (i j : Int) : Int := if j < i then j else i
theorem int2_of {f : Int → Int → Int} {K : PySem.W.Frag} {xs : List V} {H : Hp} {Q : VK} (h : rC1 K cm W (int2O f) xs H Q) : ∃ i j, xs = [.int i, .int j] ∧ Q (.int (f i j)) H := by
  obtain ⟨F, ι, σ', ds, st, w, rd, q⟩ := h
  unfold int2O at q
  cases rd with
  | nil => exact q.elim
  | cons ra t =>
    cases ra with
    | int i =>
      cases t with
      | nil => exact q.elim
      | cons rb t =>
        cases rb with
        | int j =>
          cases t with
          | nil => exact ⟨i, j, rfl, q F ι H _ .refl .refl w (.int _)⟩
          | cons _ _ => exact q.elim
        | _ => exact q.elim
    | _ => exact q.elim
theorem c_max2 (hc : X.calm = true) : CallR X (.builtin "max") (rC1 X.K cm W (int2O maxI)) := fun pins s σ H xs us Q I r h => call_max2 hc pins s σ H xs us Q I r (int2_of h)
theorem c_min2 (hc : X.calm = true) : CallR X (.builtin "min") (rC1 X.K cm W (int2O minI)) := fun pins s σ H xs us Q I r h => call_min2 hc pins s σ H xs us Q I r (int2_of h)
def divmodO : OpL := fun ds s => match ds with
  | [.int i, .int j] => if 0 < j ∧ j < 1073741824 then .ok (.tup [.int (i / j), .int (i % j)]) s else .bad
  | _ => .bad
theorem c_divmod : CallR X (.builtin "divmod") (rC1 X.K cm W divmodO) := by
  intro pins s σ H xs us Q I r h
  obtain ⟨F, ι, σ', ds, st, w, rd, q⟩ := h
  unfold divmodO at q
  cases rd with
  | nil => exact q.elim
  | cons ra t =>
    cases ra with
    | int i =>
      cases t with
      | nil => exact q.elim
      | cons rb t =>
        cases rb with
        | int j =>
          cases t with
          | nil =>
            dsimp only at q
            by_cases c : 0 < j ∧ j < 1073741824
            · rw [if_pos c] at q
              refine call_divmod pins s σ H _ us Q I r ⟨i, j, rfl, c, fun p hp => ?_⟩
              have n := Le.new (o := .tup [.int (i / j), .int (i % j)]) (w.fresh hp)
              exact q _ _ _ _ n .refl (w.frz hp) (.tup (SqT.of upd_same) (.cons (.int _) (.cons (.int _) .nil)))
            · rw [if_neg c] at q; exact q.elim
          | cons _ _ => exact q.elim
        | _ => exact q.elim
    | _ => exact q.elim
def intsD : List D → Option (List Int)
  | [] => some []
  | .int i :: r => (intsD r).map (i :: ·)
  | _ => none
theorem intsD_ok {K : PySem.W.Frag} {F : Hp} {ι : Io} : ∀ {ds : List D} {vs : List V} {ns : List Int}, RepL K cm F ι ds vs → intsD ds = some ns → vs = ns.map V.int
  | _, _, _, .nil, h => by cases h; rfl
  | _, _, ns, .cons (d := d) (ds := ds) r t, h => by
    cases r with
    | int i =>
      unfold intsD at h
      cases e : intsD ds with
      | none => rw [e] at h; cases h
      | some ms => rw [e] at h; cases h; rw [intsD_ok t e]; rfl
    | _ => simp [intsD] at h
def sumO : OpL := fun ds s => match ds with
  | [.lst xs] => (match intsD xs with
    | some ns => .ok (.int ns.sum) s
    | none => .bad)
  | _ => .bad
theorem c_sum (hc : X.calm = true) : CallR X (.builtin "sum") (rC1 X.K cm W sumO) := by
  intro pins s σ H xs us Q I r h
  obtain ⟨F, ι, σ', ds, st, w, rd, q⟩ := h
  unfold sumO at q
  cases rd with
  | nil => exact q.elim
  | cons ra t =>
    cases t with
    | cons _ _ => cases ra <;> exact q.elim
    | nil =>
      cases ra with
      | @lst a vs xs hq hl =>
        dsimp only at q
        cases e : intsD xs with
        | none => rw [e] at q; exact q.elim
        | some ns =>
          rw [e] at q
          have ev := intsD_ok hl e
          subst ev
          exact cr_sum hc pins s σ H _ us Q I r ⟨a, ns, rfl, Le.l w.sub hq, q F ι H _ .refl .refl w (.int _)⟩
      | _ => exact q.elim
def lenO : OpL := fun ds s => match ds with
  | [.lst xs] => .ok (.int xs.length) s
  | [.tup xs] => .ok (.int xs.length) s
  | [.str x] => if x.length ≤ 1000000 then .ok (.int x.length) s else .bad
  | [.ref n] => (match s[n]? with
    | some (.lst xs) => .ok (.int xs.length) s
    | _ => .bad)
  | _ => .bad
theorem c_len : CallR X (.builtin "len") (rC1 X.K cm W lenO) := by
  intro pins s σ H xs us Q I r h
  obtain ⟨F, ι, σ', ds, st, w, rd, q⟩ := h
  unfold lenO at q
  cases rd with
  | nil => exact q.elim
  | cons ra t =>
    cases t with
    | cons _ _ => cases ra <;> exact q.elim
    | nil =>
      cases ra with
      | @lst a vs xs hq hl =>
        dsimp only at q
        rw [hl.length] at q
        exact call_len_seq pins s σ H _ us Q I r ⟨a, vs, rfl, .inl (Le.l w.sub hq), q F ι H _ .refl .refl w (.int _)⟩
      | @tup a vs xs hq hl =>
        dsimp only at q
        rw [hl.length] at q
        exact call_len_seq pins s σ H _ us Q I r ⟨a, vs, rfl, .inr (Le.t w.sub hq), q F ι H _ .refl .refl w (.int _)⟩
      | str z =>
        dsimp only at q
        by_cases c : z.length ≤ 1000000
        · rw [if_pos c] at q
          exact call_len_str pins s σ H _ us Q I r ⟨z, rfl, small_line c, q F ι H _ .refl .refl w (.int _)⟩
        · rw [if_neg c] at q; exact q.elim
      | @ref n a hn =>
        dsimp only at q
        cases es : st[n]? with
        | none => rw [es] at q; exact q.elim
        | some mo =>
          cases mo with
          | ins _ _ => rw [es] at q; exact q.elim
          | lst xs =>
            rw [es] at q
            obtain ⟨vs, e1, hl⟩ := w.cur n _ a es hn
            dsimp only at q
            rw [hl.length] at q
            exact call_len_seq pins s σ H _ us Q I r ⟨a, vs, rfl, .inl (SqL.of e1), q F ι H _ .refl .refl w (.int _)⟩
      | _ => exact q.elim
end
end PM
end

/-! PmJ -/
section
set_option Elab.async false
set_option linter.all false
set_option maxRecDepth 100000
set_option maxHeartbeats 4000000
/-! ### what the top leaves; the law's end -/
namespace PM
open PySem L2
/-- a name of the module that holds d -/
def GC (K : PySem.W.Frag) (mg : Str → Option Value) (cm : Str → Option Addr) (x : Str) (d : D) : Prop := ∃ v u, mg x = some u ∧ RelV v u ∧ ∀ F ι, Rep K cm F ι d v
theorem qe_glob {X : Cx} {cm : Str → Option Addr} {W : WX} {x : Str} {p : Pos} {d : D} (h : GC X.K X.mg cm x d) (hg : Gl X x := by rfl) (hd : (x == ("__debug__" : Str)) = false := by decide) : Pe X cm W (.Name x p) (mC d) :=
  let ⟨_, _, h1, h2, h3⟩ := h
  qe_c (pe_glob hg h1 h2 hd) h3
/-- a built-in's name as a value -/
theorem qe_ty {X : Cx} {cm : Str → Option Addr} {W : WX} {x : Str} {p : Pos} {n : String} (hm : X.mg x = none) (hv : bootBuiltins x = some (.type n)) (hg : Gl X x := by rfl) (hn : x ≠ "__name__" := by decide) (hd : (x == ("__debug__" : Str)) = false := by decide) : Pe X cm W (.Name x p) (mC (.ty n)) :=
  qe_c (pe_bltn (v := .ty n) hg hm hv rfl hn hd) fun _ _ => .ty n
mutual
def repB (K : PySem.W.Frag) : D → Value → Bool
  | .non, .none => true
  | .bl b, .bool c => b == c
  | .int i, .int j _ => decide (i = j)
  | .str x, .str y _ => decide (x = y)
  | .tup ds, .ref a => (match K.lookup a with
    | some o => (match o.data with
      | .seq its _ => decide (o.cls = .type "tuple") && (Nat.ble its.size 1000000 && repLB K ds its.toList)
      | _ => false)
    | none => false)
  | _, _ => false
def repLB (K : PySem.W.Frag) : List D → List Value → Bool
  | [], [] => true
  | d :: ds, v :: vs => repB K d v && repLB K ds vs
  | _, _ => false
end
mutual
theorem repB_ok {K : PySem.W.Frag} {cm : Str → Option Addr} : ∀ {d : D} {u : Value}, repB K d u = true → ∃ v, RelV v u ∧ ∀ F ι, Rep K cm F ι d v
  | .non, u, h => by cases u <;> simp [repB] at h; exact ⟨.non, rfl, fun _ _ => .non⟩
  | .bl b, u, h => by cases u <;> simp [repB] at h; subst h; exact ⟨.bl _, rfl, fun _ _ => .bl _⟩
  | .int b, u, h => by cases u <;> simp [repB] at h; subst h; exact ⟨.int _, ⟨_, rfl⟩, fun _ _ => .int _⟩
  | .str b, u, h => by cases u <;> simp [repB] at h; subst h; exact ⟨.str _, ⟨_, rfl⟩, fun _ _ => .str _⟩
  | .ty _, u, h => by simp [repB] at h
  | .cls _, u, h => by simp [repB] at h
  | .ref _, u, h => by simp [repB] at h
  | .lst _, u, h => by simp [repB] at h
  | .ins _ _, u, h => by simp [repB] at h
  | .tup ds, u, h => by
    cases u with
    | ref a =>
      simp only [repB] at h
      cases e : K.lookup a with
      | none => simp only [e] at h; cases h
      | some o =>
        simp only [e] at h
        split at h
        · rename_i its n hd
          simp only [Bool.and_eq_true, decide_eq_true_eq] at h
          obtain ⟨vs, h1, h2⟩ := repLB_ok (cm := cm) h.2.2
          exact ⟨.ref a, rfl, fun F ι => .tup (.inr ⟨o, its, n, e, h.1, hd, small_line (Nat.le_of_ble_eq_true h.2.1), h1⟩) (h2 F ι)⟩
        · cases h
    | _ => simp [repB] at h
theorem repLB_ok {K : PySem.W.Frag} {cm : Str → Option Addr} : ∀ {ds : List D} {us : List Value}, repLB K ds us = true → ∃ vs, Vals vs us ∧ ∀ F ι, RepL K cm F ι ds vs
  | [], us, h => by cases us <;> simp [repLB] at h; exact ⟨[], .nil, fun _ _ => .nil⟩
  | d :: ds, us, h => by
    cases us with
    | nil => simp [repLB] at h
    | cons u us =>
      simp only [repLB, Bool.and_eq_true] at h
      obtain ⟨v, h1, h2⟩ := repB_ok (cm := cm) h.1
      obtain ⟨vs, h3, h4⟩ := repLB_ok (cm := cm) h.2
      exact ⟨v :: vs, .cons h1 h3, fun F ι => .cons (h2 F ι) (h4 F ι)⟩
end
def gcB (x : Str) (d : D) (K : PySem.W.Frag) : Bool := match PySem.W.nsIn K mainGlobals x with
  | some (some u) => repB K d u
  | _ => false
theorem gc_ok {K : PySem.W.Frag} {h : Heap} {mg : Str → Option Value} {cm : Str → Option Addr} {x : Str} {d : D} (X : K.In h) (G : h.Ns mainGlobals mg) (c : gcB x d K = true) : GC K mg cm x d := by
  unfold gcB at c
  split at c
  · rename_i u e
    obtain ⟨v, h1, h2⟩ := repB_ok (cm := cm) c
    exact ⟨v, u, PySem.W.mg_of X G e, h1, h2⟩
  · cases c
def clsM (cs : List Str) (K : PySem.W.Frag) : Str → Option Addr := fun c => if c ∈ cs then some (He.ga K c) else none
theorem clsM_of {cs : List Str} {K : PySem.W.Frag} {c : Str} {C : Addr} (h : clsM cs K c = some C) : c ∈ cs ∧ C = He.ga K c := by
  unfold clsM at h
  split at h
  · rename_i hc; cases h; exact ⟨hc, rfl⟩
  · cases h
theorem gc_cls {K : PySem.W.Frag} {h : Heap} {mg : Str → Option Value} {cs : List Str} {x : Str} (X : K.In h) (G : h.Ns mainGlobals mg) (hx : x ∈ cs) (c : (He.Fa.glo x).ok K = true) : GC K mg (clsM cs K) x (.cls x) :=
  ⟨.ref (He.ga K x), .ref (He.ga K x), He.glo_ok X G c, rfl, fun F ι => .cls (by unfold clsM; rw [if_pos hx])⟩
/-- a class may be asked for its class; its fields are no class's names; unlike types are not ahead in == -/
def insB (x : Str) (K : PySem.W.Frag) : Bool := (He.Fa.cls x).ok K && (decide (PySem.W.findIn K (.ref (He.ga K x)) "__class__" = some (some (.builtin "object.__class__"))) && (decide (PySem.W.specialIn K (.builtin "object.__class__") "__get__" = some (some (.builtin "getset_descriptor.__get__"))) &&
  (decide (PySem.W.takesIn K (.builtin "object.__class__") = some true) && decide (PySem.W.mroIn K (He.ga K x) (.type "object") = some true))))
theorem insB_ok {x : Str} {K : PySem.W.Frag} (h : insB x K = true) : InsOk K (He.ga K x) := by
  unfold insB at h
  simp only [Bool.and_eq_true, decide_eq_true_eq] at h
  exact ⟨He.cls_ok h.1, h.2.1, h.2.2.1, h.2.2.2.1, h.2.2.2.2⟩
def noatB (cs fs : List Str) (K : PySem.W.Frag) : Bool := cs.all fun x => fs.all fun f => (He.Fa.cls x).ok K && (He.Fa.noat x f).ok K
theorem fldOk_of {cs fs : List Str} {K : PySem.W.Frag} {f : Str} (h : noatB cs fs K = true) (hf : f ∈ fs) : FldOk K (clsM cs K) f := fun c C hc => by
  obtain ⟨h1, rfl⟩ := clsM_of hc
  have q := List.all_eq_true.mp (List.all_eq_true.mp h c h1) f hf
  simp only [Bool.and_eq_true] at q
  exact ⟨He.cls_ok q.1, He.noat_ok q.2⟩
def tyNames : List String := ["NoneType", "bool", "int", "str", "tuple", "list"]
def eqB (cs : List Str) (x : Str) (K : PySem.W.Frag) : Bool := (He.Fa.meth x "__eq__").ok K && (decide (PySem.W.findIn K (.ref (He.ga K x)) "__ne__" = some (some (.builtin "object.__ne__"))) && (decide (PySem.W.mroIn K (He.ga K x) (.type "object") = some true) &&
  ((tyNames.all fun n => PySem.W.notFirst K (He.ga K x) (.type n)) && cs.all fun c => PySem.W.notFirst K (He.ga K x) (.ref (He.ga K c)))))
theorem eqB_ok {P : Program} {w : World} {K : PySem.W.Frag} {mg : Str → Option Value} {base : Heap} {cs ps : List Str} {x : Str} {k : Nat} {f : FM} {fd : FuncData} (h : eqB cs x K = true) (F : FnOk P w K mg base (L2.CX P w) k (He.ma K (He.ga K x) "__eq__") fd ps (spM K (clsM cs K) 2 f)) (hb : Binds K fd ps []) : EqOk P w K mg base (clsM cs K) k (He.ga K x) f := by
  unfold eqB at h
  simp only [Bool.and_eq_true, decide_eq_true_eq] at h
  obtain ⟨h1, h2, h3, h4, h5⟩ := h
  have h1 : He.eqO (PySem.W.findIn K (.ref (He.ga K x)) "__eq__") (some (some (.ref (He.ma K (He.ga K x) "__eq__")))) = true ∧ _ := Bool.and_eq_true_iff.mp h1
  refine ⟨⟨_, fd, ps, F, hb, He.eqO_ok h1.1, (Bool.and_eq_true_iff.mp h1.2).1⟩, h2, h3, fun t u hd hn => ?_⟩
  cases t with
  | b n =>
    obtain rfl : u = .type n := hd
    exact List.all_eq_true.mp h4 n (hn n rfl)
  | o c =>
    obtain ⟨C, hc, rfl⟩ := hd
    obtain ⟨q1, rfl⟩ := clsM_of hc
    exact List.all_eq_true.mp h5 c q1
def dtV (K : PySem.W.Frag) : DT → Value
  | .b n => .type n
  | .o c => .ref (He.ga K c)
abbrev SubT := List ((DT × DT) × Bool)
def subF (l : SubT) : Subs := fun t u => l.lookup (t, u)
def subB (l : SubT) (K : PySem.W.Frag) : Bool := l.all fun q => decide (PySem.W.kitOne K (dtV K q.1.1) (dtV K q.1.2) = some q.2)
theorem subB_ok {l : SubT} {K : PySem.W.Frag} {cs : List Str} (h : subB l K = true) : SubOk K (clsM cs K) (subF l) := fun t u b tv uv e ht hu => by
  have hm : ((t, u), b) ∈ l := by
    unfold subF at e
    clear h
    induction l with
    | nil => simp at e
    | cons p r ih =>
      rw [List.lookup_cons] at e
      cases q : (t, u) == p.1 with
      | true =>
        rw [q] at e
        cases e
        rw [beq_iff_eq.mp q]
        exact List.mem_cons_self
      | false => rw [q] at e; exact List.mem_cons_of_mem _ (ih e)
  have q := of_decide_eq_true (List.all_eq_true.mp h _ hm)
  have dv : ∀ {t : DT} {v : Value}, DTv (clsM cs K) t v → v = dtV K t := fun {t v} z => by
    cases t with
    | b n => exact z
    | o c => obtain ⟨C, hc, rfl⟩ := z; rw [(clsM_of hc).2]; rfl
  rw [dv ht, dv hu]
  exact q
/-! ### the Hook: defs and facts -/
abbrev Facts := List (PySem.W.Frag → Bool)
def hookP (n : Nat) (fn : List He.DefD) (ex : Facts) : PySem.W.Hook where
  α := He.AlD × Bool
  obs := fun s => (He.obsD [] fn (He.frG s.heap.get? (He.asD s.heap.get? n)), ex.all fun f => f (He.frG s.heap.get? (He.asD s.heap.get? n)))
  val := fun _ => (He.valD fn, true)
  says := fun _ h => ∃ K : PySem.W.Frag, K.In h ∧ He.SaysD [] fn K ∧ ∀ f ∈ ex, f K = true
  of := fun _ s e => ⟨He.frG s.heap.get? (He.asD s.heap.get? n), He.frG_in, congrArg (fun z : He.AlD × Bool => z.1) e, List.all_eq_true.mp (congrArg (fun z : He.AlD × Bool => z.2) e)⟩
  keeps := fun _ _ _ ⟨K, hK, c⟩ k => ⟨K, PySem.W.Frag.In.keeps hK k, c⟩
def obP (n : Nat) (fn : List He.DefD) (ex : Facts) (s : PySem.W.SharedT) : He.AlD × Bool :=
  let K := He.frG (HandSHeadRun.getT s) (He.asD (HandSHeadRun.getT s) n)
  (He.obsD [] fn K, ex.all fun f => f K)
theorem obP_eq {n : Nat} {fn : List He.DefD} {ex : Facts} (s : PySem.W.SharedT) : obP n fn ex s = (hookP n fn ex).obs s.abs := by
  have e : HandSHeadRun.getT s = s.abs.heap.get? := funext (HandSHeadRun.getT_eq s)
  unfold obP
  rw [e]
  rfl
/-- the law's promise: True -/
def lawOk (f : FM) : Prop := ∀ ns : List Int, ns.length ≤ 63 → ∃ s, f [.lst (ns.map .int)] [] = .ok (.bl true) s
theorem rep_ints {K : PySem.W.Frag} {cm : Str → Option Addr} {F : Hp} {ι : Io} : ∀ ns : List Int, RepL K cm F ι (ns.map .int) (ns.map V.int)
  | [] => .nil
  | n :: r => .cons (.int n) (rep_ints r)
theorem law_sp {K : PySem.W.Frag} {cm : Str → Option Addr} {f : FM} (hf : lawOk f) (H : Hp) (a : Addr) (ns : List Int) (hl : ns.length ≤ 63) (hS : SqL K H a (ns.map V.int)) : spM K cm 1 f [.ref a] H (fun v _ => v = .bl true) fun _ _ _ => False := by
  obtain ⟨s, e⟩ := hf ns hl
  refine ⟨rfl, H, ⟨[], fun _ => none⟩, [.lst (ns.map .int)], [], ⟨fun _ _ h => h, rfl, fun n o a h => by simp at h, fun a h => by simp at h, List.nodup_nil, fun n o h => by simp at h, fun a o h => by cases h⟩, .cons (.lst hS (rep_ints ns)) .nil, ?_⟩
  rw [e]
  intro F' ι' H' b _ _ _ r
  cases r
  rfl
theorem funD_eq {K : PySem.W.Frag} {x q : Str} {A A' : Arguments} {B B' : List Stmt} {S S' : Scope} {a : Addr} {fd fd' : FuncData} (h : FunD K x q A B S [] [] a fd) (h' : FunD K x q A' B' S' [] [] a fd') : fd = fd' := by
  obtain ⟨oc, od, dV, kV, doc, pm, an, cdv, ct, osl, rfl, lk, _⟩ := h.ex
  obtain ⟨oc', od', dV', kV', doc', pm', an', cdv', ct', osl', rfl, lk', _⟩ := h'.ex
  rw [lk] at lk'
  cases lk'
  rfl
open PySem.Spec PyProof.Rows in
theorem walk_P {l : PySem.W.OpenLaw} {n k : Nat} {q : Program} {loose : List Str} {XP : (Str → Option Value) → Heap → Prop} {YP : World → Heap → Prop} {d : DefRec} {CX : World → CXT} {x : Str}
    (hn : l.most = some n) (hn2 : n ≤ sizeLine) (hdf : d.params.defaults = []) (hr : Room k callerA)
    (F : ∀ (w : World) (mg : Str → Option Value) (fa : Addr) (h : Heap), YP w h → h.Ns mainGlobals mg → mg d.name = some (.ref fa) →
      ∃ (K : PySem.W.Frag) (fd : FuncData) (sp : Sp), K.In h ∧ (∀ (s : Shared) (u : Value), BindsTo s fd ⟨[u], []⟩ [(x, u)]) ∧
        (∀ (H : Hp) (a : Addr) (ns : List Int), ns.length ≤ n → Only H → SqL K H a (ns.map V.int) → sp [.ref a] H (fun v _ => v = .bl true) fun _ _ _ => False) ∧
        ∀ base : Heap, K.In base → base.Ns mainGlobals mg → FnOk l.prog w K mg base (CX w) k fa fd [x] sp)
    (hCX : ∀ (w : World) (H : Hp) (s : Shared) (e : Value) (s' : Shared), CX w [] H s (fun _ _ _ => False) e s' → False) :
    PySem.W.WalkO q loose XP YP l.row.toRowW d [] (fun f vs => PySem.call f vs) := by
  refine Att.attach_call hn hdf fun w s₀ s₁ mg mb fa o pm cd doc a vs ns G Y ho hd hcd hmg hobj hints hlen hg => ?_
  obtain ⟨K, fd, sp, KX, hb, hsp, hF⟩ := F w mg fa _ Y G.T.g hmg
  exact law_call KX G.T.g G.T.b G.T.builtins G.T.nolimit hg hobj hints (Nat.le_trans hlen hn2) hr hF hb (fun H hO hS => hsp H a ns hlen hO hS) fun H e s' => hCX w H s₁ e s'
def LenM (m : M (List D)) (n : Nat) : Prop := ∀ env s ds s', m env s = .ok ds s' → ds.length = n
theorem len_nil : LenM mNil 0 := fun _ _ _ _ h => by cases h; rfl
theorem len_cons {a : M D} {r : M (List D)} {n : Nat} (h : LenM r n) : LenM (mCons a r) (n + 1) := fun env s ds s' e => by
  unfold mCons at e
  cases e1 : a env s with
  | ok d s1 =>
    rw [e1] at e
    simp only [Res.bind] at e
    cases e2 : r env s1 with
    | ok es s2 => rw [e2] at e; cases e; exact congrArg (· + 1) (h _ _ _ _ e2)
    | exc x s2 => rw [e2] at e; cases e
    | bad => rw [e2] at e; cases e
  | exc x s1 => rw [e1] at e; cases e
  | bad => rw [e1] at e; cases e
theorem len_succ {m : M (List D)} {n : Nat} (h : LenM m n) : ∀ env s ds s', m env s = .ok ds s' → ds.length + 1 = n + 1 := fun env s ds s' e => congrArg (· + 1) (h env s ds s' e)
/-- a method of the text -/
theorem fnDm {P : Program} {w : World} {K : PySem.W.Frag} {mg : Str → Option Value} {base : Heap} {cm : Str → Option Addr} {x q : Str} {st : Stmt} {N ps : List Str} {k n : Nat} {m : MS} {a : Addr} {fd : FuncData} (FD : FunD K x q (defArgs st) (defBody st) (defScope st) [] [] a fd) (S : FnScope N ps (defScope st)) (hn : N.length - ps.length = n)
    (hb : ∀ (cdv : Value) (A : Around) (outer : List Env) (s : Shared) (H : Hp) (E : XK), Room k (A.deeper (PyProof.Rows.envOfC q (defScope st) s.heap.objs.size a cdv)) →
      Pss (cxOf (L2.CX P w) P w K mg base N q (defScope st) a cdv A outer s H E) cm (fun c d _ H => E c d H) (defBody st) m) : FnOk P w K mg base (L2.CX P w) (k + 1) a fd ps (spM K cm ps.length (fnM n m)) :=
  FunD.ok FD S (fun _ _ _ _ h => h.1) fun cdv A outer s H vs Q E hr h => ⟨_, hb cdv A outer s H E hr, by
    obtain ⟨hl, F, ι, ds, sto, wd, r, q⟩ := h
    exact run_body (X := cxOf (L2.CX P w) P w K mg base N x (defScope st) a cdv A outer s H E) rfl (by rw [hl]; exact hn) wd r q⟩
end PM
end

/-! PmS -/
section
set_option Elab.async false
set_option linter.all false
set_option maxRecDepth 100000
set_option maxHeartbeats 4000000
/-! ### reckoning with the words -/
namespace PM
open PySem L2
section
variable {α β : Type} {a : α} {s : Sto} {k : α → Sto → Res β} {ks : α → Sto → SR} {e : Slots}
theorem bind_ok : (Res.ok a s).bind k = k a s := rfl
theorem bindN_ok : (Res.ok a s).bindN k = k a s := rfl
theorem bind_exc {x : Exn} : (Res.exc x s : Res α).bind k = .exc x s := rfl
theorem toS_ok : (Res.ok a s).toS e ks = ks a s := rfl
theorem toS_exc {x : Exn} : (Res.exc x s : Res α).toS e ks = .exc x e s := rfl
theorem seq_next {m : MS} {e' : Slots} {s' : Sto} {a : MS} (h : a e s = .next e' s') : mSeq a m e s = m e' s' := by unfold mSeq; rw [h]
theorem res_ret {d : D} : (SR.ret d s).res = .ok d s := rfl
theorem res_next : (SR.next e s).res = .ok .non s := rfl
theorem res_exc {x : Exn} : (SR.exc x e s).res = .exc x s := rfl
end
section
variable {i j : Int} {s : Sto}
theorem add_ii {mu : Bool} : addO mu (.int i) (.int j) s = .ok (.int (i + j)) s := rfl
theorem sub_ii : subO (.int i) (.int j) s = .ok (.int (i - j)) s := rfl
theorem mulOk_l (h : -18446744073709551616 < i) (h2 : i < 18446744073709551616) : mulOk i j = true := by
  unfold mulOk
  rw [Bool.or_eq_true]
  exact .inl (decide_eq_true (.inl ⟨h, h2⟩))
theorem mulOk_r (h : -18446744073709551616 < j) (h2 : j < 18446744073709551616) : mulOk i j = true := by
  unfold mulOk
  rw [Bool.or_eq_true]
  exact .inl (decide_eq_true (.inr ⟨h, h2⟩))
theorem mul_l (h : -18446744073709551616 < i) (h2 : i < 18446744073709551616) : mulO (.int i) (.int j) s = .ok (.int (i * j)) s := if_pos (mulOk_l h h2)
theorem mul_r (h : -18446744073709551616 < j) (h2 : j < 18446744073709551616) : mulO (.int i) (.int j) s = .ok (.int (i * j)) s := if_pos (mulOk_r h h2)
theorem log2_lt {n : Nat} (h : n < 18446744073709551616) : n.log2 < 9000 := by
  by_cases h0 : n = 0
  · subst h0; decide
  · have := (Nat.log2_lt h0).mpr (show n < 2 ^ 64 from h)
    omega
theorem fdiv_ii (h : 0 < j) (h2 : j < 18446744073709551616) : fdivO (.int i) (.int j) s = .ok (.int (i / j)) s := if_pos ⟨h, log2_lt (by omega)⟩
theorem mod_ii (h : 0 < j) : modO (.int i) (.int j) s = .ok (.int (i % j)) s := if_pos h
theorem eq_ii : eqO (.int i) (.int j) s = .ok (.bl (i == j)) s := rfl
theorem ne_ii : neO (.int i) (.int j) s = .ok (.bl (!(i == j))) s := rfl
theorem lt_ii : ltO (.int i) (.int j) s = .ok (.bl (decide (i < j))) s := rfl
theorem le_ii : leO (.int i) (.int j) s = .ok (.bl (decide (i ≤ j))) s := rfl
theorem gt_ii : gtO (.int i) (.int j) s = .ok (.bl (decide (j < i))) s := rfl
theorem ge_ii : geO (.int i) (.int j) s = .ok (.bl (decide (j ≤ i))) s := rfl
theorem neg_i : negO (.int i) s = .ok (.int (-i)) s := rfl
theorem tru_b {b : Bool} : truD (.bl b) s = .ok b s := rfl
theorem tru_i : truD (.int i) s = .ok (i != 0) s := rfl
end
theorem int_b (b : Bool) (s : Sto) : intO [.bl b] s = .ok (.int (if b then 1 else 0)) s := rfl
theorem ix_lst {xs : List D} {i : Int} {d : D} {s : Sto} (h : atI xs i = some d) : ixO (.lst xs) (.int i) s = .ok d s := by
  show (match atI xs i with | some d => Res.ok d s | none => .bad) = _
  rw [h]
theorem ix_tup {xs : List D} {i : Int} {d : D} {s : Sto} (h : atI xs i = some d) : ixO (.tup xs) (.int i) s = .ok d s := by
  show (match atI xs i with | some d => Res.ok d s | none => .bad) = _
  rw [h]
theorem ix_ref {xs : List D} {n : Nat} {i : Int} {d : D} {s : Sto} (h0 : s[n]? = some (.lst xs)) (h : atI xs i = some d) : ixO (.ref n) (.int i) s = .ok d s := by
  show (match s[n]? with
    | some (.lst xs) => (match atI xs i with
      | some d => Res.ok d s
      | none => .bad)
    | _ => .bad) = _
  rw [h0]
  show (match atI xs i with | some d => Res.ok d s | none => .bad) = _
  rw [h]
theorem put_ref {xs : List D} {n j : Nat} {k : Int} {v : D} {e : Slots} {s : Sto} (h0 : s[n]? = some (.lst xs)) (h : ixN xs.length k = some j) (hv : v.pureB = true) : putIx (.ref n) (.int k) v e s = .next e (s.set n (.lst (xs.set j v))) := by
  show (match s[n]? with
    | some (.lst xs) => (match ixN xs.length k with
      | some j => if v.pureB = true then SR.next e (s.set n (.lst (xs.set j v))) else .bad
      | none => .bad)
    | _ => .bad) = _
  rw [h0]
  show (match ixN xs.length k with
      | some j => if v.pureB = true then SR.next e (s.set n (.lst (xs.set j v))) else .bad
      | none => .bad) = _
  rw [h]
  exact if_pos hv
theorem set_at {s : Sto} {n : Nat} {o x : MO} (h : s[n]? = some o) : (s.set n x)[n]? = some x := by
  have := (List.getElem?_eq_some_iff.mp h).1
  rw [List.getElem?_set_self this]
theorem set_set' {s : Sto} {n : Nat} {a b : MO} : (s.set n a).set n b = s.set n b := List.set_set ..
/-- a loop by what holds of it -/
theorem loop_inv {t : TgF} {b : MS} {xs : List D} (I : Nat → Slots → Sto → Prop) (h : ∀ i x e s, xs[i]? = some x → I i e s → ∃ e1 e2 s2, t x e = some e1 ∧ (b e1 s = .next e2 s2 ∨ b e1 s = .cont e2 s2) ∧ I (i + 1) e2 s2) :
    ∀ {e s}, I 0 e s → ∃ e' s', loopF t b xs e s = .next e' s' ∧ I xs.length e' s' := by
  have go : ∀ (ys : List D) (i : Nat) (e : Slots) (s : Sto), (∀ j, ys[j]? = xs[i + j]?) → i + ys.length = xs.length → I i e s → ∃ e' s', loopF t b ys e s = .next e' s' ∧ I xs.length e' s' := by
    intro ys
    induction ys with
    | nil => intro i e s _ hl hI; exact ⟨e, s, rfl, by simp at hl; rw [← hl]; exact hI⟩
    | cons y ys ih =>
      intro i e s hy hl hI
      obtain ⟨e1, e2, s2, h1, h2, h3⟩ := h i y e s (by have := hy 0; simpa using this.symm) hI
      obtain ⟨e', s', h4, h5⟩ := ih (i + 1) e2 s2 (fun j => by have := hy (j + 1); rw [List.getElem?_cons_succ] at this; rw [this]; congr 1; omega) (by simp at hl; omega) h3
      refine ⟨e', s', ?_, h5⟩
      unfold loopF
      rw [h1]
      rcases h2 with h2 | h2 <;> (dsimp only; rw [h2]; exact h4)
  intro e s hI
  exact go xs 0 e s (fun j => by rw [Nat.zero_add]) (by omega) hI
theorem for_next {t : TgF} {b : MS} {src : M (List D)} {e e' : Slots} {s s1 s' : Sto} {xs : List D} (h : src e s = .ok xs s1) (h2 : loopF t b xs e s1 = .next e' s') : mFor t src b e s = .next e' s' := by
  unfold mFor; rw [h]; exact h2
theorem cut_map {α β : Type} (f : α → β) (xs : List α) (lo hi : Option Int) : cutD (xs.map f) lo hi = (cutD xs lo hi).map f := by
  unfold cutD; rw [List.length_map, ← List.map_drop, ← List.map_take]
theorem cut_len {α : Type} (xs : List α) (lo hi : Option Int) : (cutD xs lo hi).length ≤ xs.length := by
  unfold cutD
  rw [List.length_take, List.length_drop]; omega
/-- script[:k] + [0] -/
theorem src_cut (ns : List Int) (k : Int) (e : Slots) (s : Sto) (h : ns.length ≤ 63) : itemsL (mOp (addO false) (mSl (slO false) (mVar 0) mNoPart (mPart (mC (.int k)))) (mLst false (mCons (mC (.int 0)) mNil))) (some (.lst (ns.map .int)) :: e) s = .ok ((cutD ns none (some k) ++ [0]).map .int) s := by
  rw [List.map_append, ← cut_map]
  have hlen := cut_len (ns.map D.int) none (some k)
  rw [List.length_map] at hlen
  have e1 : (mSl (slO false) (mVar 0) mNoPart (mPart (mC (.int k)))) (some (.lst (ns.map .int)) :: e) s = .ok (.lst (cutD (ns.map D.int) none (some k))) s := rfl
  have e2 : (mLst false (mCons (mC (.int 0)) mNil)) (some (.lst (ns.map .int)) :: e) s = .ok (.lst [.int 0]) s := rfl
  generalize cutD (ns.map D.int) none (some k) = c at *
  have e3 : addO false (.lst c) (.lst [.int 0]) s = .ok (.lst (c ++ [.int 0])) s := if_pos (by simp; omega)
  unfold itemsL mOp
  simp only [e1, e2, bind_ok, e3]
  rfl
theorem loop_ints {b : MS} {j N : Nat} (J : Sto → Prop) (h : ∀ (c : Int) (e : Slots) (s : Sto), e.length = N → J s → ∃ e' s', b (e.set j (some (.int c))) s = .next e' s' ∧ e'.length = N ∧ J s') (xs : List Int) {e : Slots} {s : Sto} (he : e.length = N) (hJ : J s) :
    ∃ e' s', loopF (tgN j) b (xs.map .int) e s = .next e' s' ∧ e'.length = N ∧ J s' := loop_inv (fun _ e s => e.length = N ∧ J s) (by
  rintro i v e s hv ⟨he, hJ⟩
  rw [List.getElem?_map] at hv
  obtain ⟨c, _, rfl⟩ := Option.map_eq_some_iff.mp hv
  obtain ⟨e', s', h1, h2⟩ := h c e s he hJ
  exact ⟨_, e', s', rfl, .inl h1, h2⟩) ⟨he, hJ⟩
theorem loop_rng {b : MS} {j r : Nat} {lo : Int} (I : Nat → Slots → Sto → Prop) (h : ∀ i e s, i < r → I i e s → ∃ e2 s2, b (e.set j (some (.int (lo + i)))) s = .next e2 s2 ∧ I (i + 1) e2 s2) {e : Slots} {s : Sto} (h0 : I 0 e s) :
    ∃ e' s', loopF (tgN j) b (rng lo r) e s = .next e' s' ∧ I r e' s' := by
  have := loop_inv (t := tgN j) (b := b) (xs := rng lo r) I (by
    intro i v e s hv hI
    have hi : i < r := by have := (List.getElem?_eq_some_iff.mp hv).1; rw [rng_len] at this; exact this
    rw [rng_get lo r i hi] at hv
    obtain rfl := (Option.some.inj hv).symm
    obtain ⟨e2, s2, h1, h2⟩ := h i e s hi hI
    exact ⟨_, e2, s2, rfl, .inl h1, h2⟩) h0
  rw [rng_len] at this
  exact this
theorem range1_ok {m : M (List D)} {e : Slots} {s s' : Sto} {n : Int} (h : m e s = .ok [.int n] s') (hn : -1000000 ≤ n ∧ n ≤ 1000000) : range1 m e s = .ok (rng 0 n.toNat) s' := by
  unfold range1; rw [h]; exact if_pos hn
theorem len1 {e : Slots} (h : e.length = 1) : ∃ a0 : Option D, e = [a0] := match e, h with
  | [a0], _ => ⟨_, rfl⟩
theorem len2 {e : Slots} (h : e.length = 2) : ∃ a0 a1 : Option D, e = [a0, a1] := match e, h with
  | [a0, a1], _ => ⟨_, _, rfl⟩
theorem len3 {e : Slots} (h : e.length = 3) : ∃ a0 a1 a2 : Option D, e = [a0, a1, a2] := match e, h with
  | [a0, a1, a2], _ => ⟨_, _, _, rfl⟩
theorem len4 {e : Slots} (h : e.length = 4) : ∃ a0 a1 a2 a3 : Option D, e = [a0, a1, a2, a3] := match e, h with
  | [a0, a1, a2, a3], _ => ⟨_, _, _, _, rfl⟩
theorem len5 {e : Slots} (h : e.length = 5) : ∃ a0 a1 a2 a3 a4 : Option D, e = [a0, a1, a2, a3, a4] := match e, h with
  | [a0, a1, a2, a3, a4], _ => ⟨_, _, _, _, _, rfl⟩
theorem len6 {e : Slots} (h : e.length = 6) : ∃ a0 a1 a2 a3 a4 a5 : Option D, e = [a0, a1, a2, a3, a4, a5] := match e, h with
  | [a0, a1, a2, a3, a4, a5], _ => ⟨_, _, _, _, _, _, rfl⟩
theorem len7 {e : Slots} (h : e.length = 7) : ∃ a0 a1 a2 a3 a4 a5 a6 : Option D, e = [a0, a1, a2, a3, a4, a5, a6] := match e, h with
  | [a0, a1, a2, a3, a4, a5, a6], _ => ⟨_, _, _, _, _, _, _, rfl⟩
theorem len8 {e : Slots} (h : e.length = 8) : ∃ a0 a1 a2 a3 a4 a5 a6 a7 : Option D, e = [a0, a1, a2, a3, a4, a5, a6, a7] := match e, h with
  | [a0, a1, a2, a3, a4, a5, a6, a7], _ => ⟨_, _, _, _, _, _, _, _, rfl⟩
theorem len9 {e : Slots} (h : e.length = 9) : ∃ a0 a1 a2 a3 a4 a5 a6 a7 a8 : Option D, e = [a0, a1, a2, a3, a4, a5, a6, a7, a8] := match e, h with
  | [a0, a1, a2, a3, a4, a5, a6, a7, a8], _ => ⟨_, _, _, _, _, _, _, _, _, rfl⟩
theorem len10 {e : Slots} (h : e.length = 10) : ∃ a0 a1 a2 a3 a4 a5 a6 a7 a8 a9 : Option D, e = [a0, a1, a2, a3, a4, a5, a6, a7, a8, a9] := match e, h with
  | [a0, a1, a2, a3, a4, a5, a6, a7, a8, a9], _ => ⟨_, _, _, _, _, _, _, _, _, _, rfl⟩
theorem len11 {e : Slots} (h : e.length = 11) : ∃ a0 a1 a2 a3 a4 a5 a6 a7 a8 a9 a10 : Option D, e = [a0, a1, a2, a3, a4, a5, a6, a7, a8, a9, a10] := match e, h with
  | [a0, a1, a2, a3, a4, a5, a6, a7, a8, a9, a10], _ => ⟨_, _, _, _, _, _, _, _, _, _, _, rfl⟩
theorem len12 {e : Slots} (h : e.length = 12) : ∃ a0 a1 a2 a3 a4 a5 a6 a7 a8 a9 a10 a11 : Option D, e = [a0, a1, a2, a3, a4, a5, a6, a7, a8, a9, a10, a11] := match e, h with
  | [a0, a1, a2, a3, a4, a5, a6, a7, a8, a9, a10, a11], _ => ⟨_, _, _, _, _, _, _, _, _, _, _, _, rfl⟩
theorem len13 {e : Slots} (h : e.length = 13) : ∃ a0 a1 a2 a3 a4 a5 a6 a7 a8 a9 a10 a11 a12 : Option D, e = [a0, a1, a2, a3, a4, a5, a6, a7, a8, a9, a10, a11, a12] := match e, h with
  | [a0, a1, a2, a3, a4, a5, a6, a7, a8, a9, a10, a11, a12], _ => ⟨_, _, _, _, _, _, _, _, _, _, _, _, _, rfl⟩
theorem len14 {e : Slots} (h : e.length = 14) : ∃ a0 a1 a2 a3 a4 a5 a6 a7 a8 a9 a10 a11 a12 a13 : Option D, e = [a0, a1, a2, a3, a4, a5, a6, a7, a8, a9, a10, a11, a12, a13] := match e, h with
  | [a0, a1, a2, a3, a4, a5, a6, a7, a8, a9, a10, a11, a12, a13], _ => ⟨_, _, _, _, _, _, _, _, _, _, _, _, _, _, rfl⟩
theorem len15 {e : Slots} (h : e.length = 15) : ∃ a0 a1 a2 a3 a4 a5 a6 a7 a8 a9 a10 a11 a12 a13 a14 : Option D, e = [a0, a1, a2, a3, a4, a5, a6, a7, a8, a9, a10, a11, a12, a13, a14] := match e, h with
  | [a0, a1, a2, a3, a4, a5, a6, a7, a8, a9, a10, a11, a12, a13, a14], _ => ⟨_, _, _, _, _, _, _, _, _, _, _, _, _, _, _, rfl⟩
theorem len16 {e : Slots} (h : e.length = 16) : ∃ a0 a1 a2 a3 a4 a5 a6 a7 a8 a9 a10 a11 a12 a13 a14 a15 : Option D, e = [a0, a1, a2, a3, a4, a5, a6, a7, a8, a9, a10, a11, a12, a13, a14, a15] := match e, h with
  | [a0, a1, a2, a3, a4, a5, a6, a7, a8, a9, a10, a11, a12, a13, a14, a15], _ => ⟨_, _, _, _, _, _, _, _, _, _, _, _, _, _, _, _, rfl⟩
theorem len17 {e : Slots} (h : e.length = 17) : ∃ a0 a1 a2 a3 a4 a5 a6 a7 a8 a9 a10 a11 a12 a13 a14 a15 a16 : Option D, e = [a0, a1, a2, a3, a4, a5, a6, a7, a8, a9, a10, a11, a12, a13, a14, a15, a16] := match e, h with
  | [a0, a1, a2, a3, a4, a5, a6, a7, a8, a9, a10, a11, a12, a13, a14, a15, a16], _ => ⟨_, _, _, _, _, _, _, _, _, _, _, _, _, _, _, _, _, rfl⟩
theorem len18 {e : Slots} (h : e.length = 18) : ∃ a0 a1 a2 a3 a4 a5 a6 a7 a8 a9 a10 a11 a12 a13 a14 a15 a16 a17 : Option D, e = [a0, a1, a2, a3, a4, a5, a6, a7, a8, a9, a10, a11, a12, a13, a14, a15, a16, a17] := match e, h with
  | [a0, a1, a2, a3, a4, a5, a6, a7, a8, a9, a10, a11, a12, a13, a14, a15, a16, a17], _ => ⟨_, _, _, _, _, _, _, _, _, _, _, _, _, _, _, _, _, _, rfl⟩
theorem len19 {e : Slots} (h : e.length = 19) : ∃ a0 a1 a2 a3 a4 a5 a6 a7 a8 a9 a10 a11 a12 a13 a14 a15 a16 a17 a18 : Option D, e = [a0, a1, a2, a3, a4, a5, a6, a7, a8, a9, a10, a11, a12, a13, a14, a15, a16, a17, a18] := match e, h with
  | [a0, a1, a2, a3, a4, a5, a6, a7, a8, a9, a10, a11, a12, a13, a14, a15, a16, a17, a18], _ => ⟨_, _, _, _, _, _, _, _, _, _, _, _, _, _, _, _, _, _, _, rfl⟩
theorem len20 {e : Slots} (h : e.length = 20) : ∃ a0 a1 a2 a3 a4 a5 a6 a7 a8 a9 a10 a11 a12 a13 a14 a15 a16 a17 a18 a19 : Option D, e = [a0, a1, a2, a3, a4, a5, a6, a7, a8, a9, a10, a11, a12, a13, a14, a15, a16, a17, a18, a19] := match e, h with
  | [a0, a1, a2, a3, a4, a5, a6, a7, a8, a9, a10, a11, a12, a13, a14, a15, a16, a17, a18, a19], _ => ⟨_, _, _, _, _, _, _, _, _, _, _, _, _, _, _, _, _, _, _, _, rfl⟩
theorem len21 {e : Slots} (h : e.length = 21) : ∃ a0 a1 a2 a3 a4 a5 a6 a7 a8 a9 a10 a11 a12 a13 a14 a15 a16 a17 a18 a19 a20 : Option D, e = [a0, a1, a2, a3, a4, a5, a6, a7, a8, a9, a10, a11, a12, a13, a14, a15, a16, a17, a18, a19, a20] := match e, h with
  | [a0, a1, a2, a3, a4, a5, a6, a7, a8, a9, a10, a11, a12, a13, a14, a15, a16, a17, a18, a19, a20], _ => ⟨_, _, _, _, _, _, _, _, _, _, _, _, _, _, _, _, _, _, _, _, _, rfl⟩
theorem len22 {e : Slots} (h : e.length = 22) : ∃ a0 a1 a2 a3 a4 a5 a6 a7 a8 a9 a10 a11 a12 a13 a14 a15 a16 a17 a18 a19 a20 a21 : Option D, e = [a0, a1, a2, a3, a4, a5, a6, a7, a8, a9, a10, a11, a12, a13, a14, a15, a16, a17, a18, a19, a20, a21] := match e, h with
  | [a0, a1, a2, a3, a4, a5, a6, a7, a8, a9, a10, a11, a12, a13, a14, a15, a16, a17, a18, a19, a20, a21], _ => ⟨_, _, _, _, _, _, _, _, _, _, _, _, _, _, _, _, _, _, _, _, _, _, rfl⟩
theorem len23 {e : Slots} (h : e.length = 23) : ∃ a0 a1 a2 a3 a4 a5 a6 a7 a8 a9 a10 a11 a12 a13 a14 a15 a16 a17 a18 a19 a20 a21 a22 : Option D, e = [a0, a1, a2, a3, a4, a5, a6, a7, a8, a9, a10, a11, a12, a13, a14, a15, a16, a17, a18, a19, a20, a21, a22] := match e, h with
  | [a0, a1, a2, a3, a4, a5, a6, a7, a8, a9, a10, a11, a12, a13, a14, a15, a16, a17, a18, a19, a20, a21, a22], _ => ⟨_, _, _, _, _, _, _, _, _, _, _, _, _, _, _, _, _, _, _, _, _, _, _, rfl⟩
theorem len24 {e : Slots} (h : e.length = 24) : ∃ a0 a1 a2 a3 a4 a5 a6 a7 a8 a9 a10 a11 a12 a13 a14 a15 a16 a17 a18 a19 a20 a21 a22 a23 : Option D, e = [a0, a1, a2, a3, a4, a5, a6, a7, a8, a9, a10, a11, a12, a13, a14, a15, a16, a17, a18, a19, a20, a21, a22, a23] := match e, h with
  | [a0, a1, a2, a3, a4, a5, a6, a7, a8, a9, a10, a11, a12, a13, a14, a15, a16, a17, a18, a19, a20, a21, a22, a23], _ => ⟨_, _, _, _, _, _, _, _, _, _, _, _, _, _, _, _, _, _, _, _, _, _, _, _, rfl⟩
theorem eqD_self {d : D} {p : PyData} {k : Bool → Bool} (s : Sto) (h : d.pd = some p) (hs : SeqAt.shaped p = true) : eqD d d s k = .ok (.bl (k true)) s := by
  unfold eqD
  rw [h]
  show (if SeqAt.shaped p = true ∧ SeqAt.shaped p = true then Res.ok (D.bl (k (p.eqv p))) s else .bad) = _
  rw [if_pos ⟨hs, hs⟩, SeqAt.eqv_refl p (SeqAt.canLay_of_shaped hs)]
theorem bindN_ok' {α β : Type} {a : α} {s : Sto} {k : α → Sto → Res β} : (Res.ok a s).bindN k = k a s := rfl
end PM
end

/-! Civ -/
section
set_option Elab.async false
set_option maxRecDepth 100000
set_option maxHeartbeats 4000000
/-! ### the calendar -/
namespace Civ
def leap (y : Int) : Bool := y % 4 == 0 && (!(y % 100 == 0) || y % 400 == 0)
theorem leap_iff {y : Int} : leap y = true ↔ y % 4 = 0 ∧ (y % 100 ≠ 0 ∨ y % 400 = 0) := by
  unfold leap
  simp
def lens : List Int := [31, 28, 31, 30, 31, 30, 31, 31, 30, 31, 30, 31]
def len (y m : Int) : Int := if m = 2 then (if leap y then 29 else 28) else if m = 4 ∨ m = 6 ∨ m = 9 ∨ m = 11 then 30 else 31
def mp (m : Int) : Int := (m + 9) % 12
def low (m : Int) : Int := if m < 3 then 1 else 0
def cnt (y m d : Int) : Int := 365 * (y - low m) + (y - low m) / 4 - (y - low m) / 100 + (y - low m) / 400 + ((153 * mp m + 2) / 5 + d - 1)
/-- days ahead of the year k of a cycle -/
def S (k : Int) : Int := 365 * k + k / 4 - k / 100
def g (l : Int) : Int := l - l / 1460 + l / 36524 - l / 146096
theorem g_step (l : Int) (h : 0 ≤ l) : g l ≤ g (l + 1) := by unfold g; omega
theorem g_mono (a : Int) (h : 0 ≤ a) : ∀ n : Nat, g a ≤ g (a + n)
  | 0 => by simp
  | n + 1 => by
    have := g_mono a h n
    have := g_step (a + n) (by omega)
    have e : a + ((n + 1 : Nat) : Int) = a + n + 1 := by omega
    rw [e]; omega
theorem g_le {a b : Int} (h : 0 ≤ a) (hb : a ≤ b) : g a ≤ g b := by
  have := g_mono a h (b - a).toNat
  have e : a + ((b - a).toNat : Int) = b := by omega
  rwa [e] at this
/-- the last day of the year k of a cycle (one more in the last, which is leap) -/
def E (k : Int) : Int := S (k + 1) - 1 + (if k = 399 then 1 else 0)
theorem ends : ∀ k : Nat, k < 400 → 365 * (k : Int) ≤ g (S k) ∧ g (E k) < 365 * (k + 1) ∧ 0 ≤ S k := by decide +kernel
theorem year_of {k l : Int} (h0 : 0 ≤ k) (h1 : k < 400) (h2 : S k ≤ l) (h3 : l ≤ E k) : g l / 365 = k := by
  obtain ⟨a, b, c⟩ := ends k.toNat (by omega)
  have e : (k.toNat : Int) = k := by omega
  rw [e] at a b c
  have := g_le c h2
  have := g_le (by omega) h3
  omega
theorem find_year (l : Int) (h0 : 0 ≤ l) : ∀ n : Nat, l < S n → ∃ k : Nat, k < n ∧ S k ≤ l ∧ l < S (k + 1)
  | 0, h => by simp [S] at h; omega
  | n + 1, h => by
    by_cases c : l < S n
    · obtain ⟨k, a, b, d⟩ := find_year l h0 n c
      exact ⟨k, by omega, b, d⟩
    · exact ⟨n, by omega, by omega, by simpa using h⟩
theorem year_ex {l : Int} (h0 : 0 ≤ l) (h1 : l < 146097) : ∃ k : Int, 0 ≤ k ∧ k < 400 ∧ S k ≤ l ∧ l ≤ E k := by
  by_cases c : l < 146096
  · obtain ⟨k, a, b, d⟩ := find_year l h0 400 (by simpa [S] using c)
    exact ⟨k, by omega, by omega, b, by unfold E; split <;> omega⟩
  · exact ⟨399, by omega, by omega, by simp [S]; omega, by simp [E, S]; omega⟩
/-- what parts_of reckons -/
def pY (n : Int) : Int := g (n % 146097) / 365
def pA (n : Int) : Int := n % 146097 - S (pY n)
def pT (n : Int) : Int := (5 * pA n + 2) / 153
def pM (n : Int) : Int := if pT n < 10 then pT n + 3 else pT n - 9
def py (n : Int) : Int := pY n + 400 * (n / 146097) + low (pM n)
def pd (n : Int) : Int := pA n - (153 * pT n + 2) / 5 + 1
def ok (y m d : Int) : Prop := 1 ≤ m ∧ m ≤ 12 ∧ 1 ≤ d ∧ d ≤ len y m
/-- the year of the cycle, and the day in it -/
theorem cyc {Y c k a : Int} (hY : Y = 400 * c + k) (h0 : 0 ≤ k) (h1 : k < 400) : 365 * Y + Y / 4 - Y / 100 + Y / 400 + a = 146097 * c + (S k + a) := by
  unfold S; omega
theorem gap {k : Int} (h0 : 0 ≤ k) (h1 : k < 400) : E k = S k + (if (k + 1) % 4 = 0 ∧ ((k + 1) % 100 ≠ 0 ∨ (k + 1) % 400 = 0) then 365 else 364) := by
  unfold E S
  split <;> split <;> omega
theorem months (m d : Int) (h : 1 ≤ m ∧ m ≤ 12) (hd : 1 ≤ d) (hd2 : d ≤ (if m = 2 then 29 else if m = 4 ∨ m = 6 ∨ m = 9 ∨ m = 11 then 30 else 31)) :
    (5 * ((153 * mp m + 2) / 5 + d - 1) + 2) / 153 = mp m ∧ (153 * mp m + 2) / 5 + d - 1 ≤ 365 ∧ 0 ≤ (153 * mp m + 2) / 5 + d - 1 ∧ (m ≠ 2 → (153 * mp m + 2) / 5 + d - 1 ≤ 364) ∧ (m = 2 → d ≤ 28 → (153 * mp m + 2) / 5 + d - 1 ≤ 364) ∧ (if mp m < 10 then mp m + 3 else mp m - 9) = m := by
  have : m = 1 ∨ m = 2 ∨ m = 3 ∨ m = 4 ∨ m = 5 ∨ m = 6 ∨ m = 7 ∨ m = 8 ∨ m = 9 ∨ m = 10 ∨ m = 11 ∨ m = 12 := by omega
  rcases this with rfl | rfl | rfl | rfl | rfl | rfl | rfl | rfl | rfl | rfl | rfl | rfl <;> simp [mp] at hd2 ⊢ <;> omega
theorem leap_cyc {y c k : Int} (h : y = 400 * c + k + 1) : leap y = true ↔ ((k + 1) % 4 = 0 ∧ ((k + 1) % 100 ≠ 0 ∨ (k + 1) % 400 = 0)) := by
  rw [leap_iff]; omega
/-- from a date to its number and back -/
theorem back {y m d : Int} (h : ok y m d) : py (cnt y m d) = y ∧ pM (cnt y m d) = m ∧ pd (cnt y m d) = d := by
  obtain ⟨h1, h2, h3, h4⟩ := h
  have hd2 : d ≤ (if m = 2 then 29 else if m = 4 ∨ m = 6 ∨ m = 9 ∨ m = 11 then 30 else 31) := by
    unfold len at h4
    by_cases c : m = 2
    · rw [if_pos c] at h4 ⊢
      split at h4 <;> omega
    · rw [if_neg c] at h4 ⊢
      exact h4
  obtain ⟨e1, e2, e3, e4, e5, e6⟩ := months m d ⟨h1, h2⟩ h3 hd2
  have hk0 : 0 ≤ (y - low m) % 400 := by omega
  have hk1 : (y - low m) % 400 < 400 := by omega
  have hY : y - low m = 400 * ((y - low m) / 400) + (y - low m) % 400 := by omega
  have q : cnt y m d = 146097 * ((y - low m) / 400) + (S ((y - low m) % 400) + ((153 * mp m + 2) / 5 + d - 1)) := cyc hY hk0 hk1
  have hE := gap hk0 hk1
  have hin : (153 * mp m + 2) / 5 + d - 1 ≤ E ((y - low m) % 400) - S ((y - low m) % 400) := by
    rw [hE]
    split
    · omega
    · rename_i hn
      by_cases c : m = 2
      · have hy : y = 400 * ((y - low m) / 400) + (y - low m) % 400 + 1 := by
          have : low m = 1 := by unfold low; rw [if_pos (by omega)]
          omega
        have nl : leap y = false := by
          cases e : leap y with
          | false => rfl
          | true => exact absurd ((leap_cyc hy).mp e) hn
        unfold len at h4
        rw [if_pos c, nl] at h4
        have := e5 c (by simpa using h4)
        omega
      · have := e4 c; omega
  have hS : 0 ≤ S ((y - low m) % 400) := by
    obtain ⟨_, _, z⟩ := ends ((y - low m) % 400).toNat (by omega)
    have e : (((y - low m) % 400).toNat : Int) = (y - low m) % 400 := by omega
    rwa [e] at z
  have hEl : E ((y - low m) % 400) < 146097 := by rw [hE]; unfold S; split <;> omega
  have l1 : cnt y m d % 146097 = S ((y - low m) % 400) + ((153 * mp m + 2) / 5 + d - 1) := by rw [q]; omega
  have l2 : cnt y m d / 146097 = (y - low m) / 400 := by rw [q]; omega
  have a1 : pY (cnt y m d) = (y - low m) % 400 := by
    unfold pY
    rw [l1]
    exact year_of hk0 hk1 (by omega) (by omega)
  have a2 : pA (cnt y m d) = (153 * mp m + 2) / 5 + d - 1 := by unfold pA; rw [a1, l1]; omega
  have a3 : pT (cnt y m d) = mp m := by unfold pT; rw [a2]; exact e1
  have a4 : pM (cnt y m d) = m := by unfold pM; rw [a3]; exact e6
  refine ⟨?_, a4, ?_⟩
  · unfold py; rw [a1, l2, a4]; omega
  · unfold pd; rw [a2, a3]; omega
theorem turns : ∀ a : Nat, a < 366 → (let t := (5 * (a : Int) + 2) / 153; let m := if t < 10 then t + 3 else t - 9; let d := (a : Int) - (153 * t + 2) / 5 + 1
    1 ≤ m ∧ m ≤ 12 ∧ 1 ≤ d ∧ d ≤ (if m = 2 then 29 else if m = 4 ∨ m = 6 ∨ m = 9 ∨ m = 11 then 30 else 31) ∧ mp m = t ∧ (m = 2 → d = 29 → a = 365)) := by decide +kernel
/-- from a number to its date and back -/
theorem forth (n : Int) : ok (py n) (pM n) (pd n) ∧ cnt (py n) (pM n) (pd n) = n := by
  obtain ⟨k, h0, h1, h2, h3⟩ := year_ex (l := n % 146097) (by omega) (by omega)
  have a1 : pY n = k := year_of h0 h1 h2 h3
  have hE := gap h0 h1
  have ha : 0 ≤ pA n ∧ pA n ≤ 365 := by
    unfold pA; rw [a1]
    refine ⟨by omega, ?_⟩
    split at hE <;> omega
  have T := turns (pA n).toNat (by omega)
  have ea : ((pA n).toNat : Int) = pA n := by omega
  simp only [ea] at T
  have T : 1 ≤ pM n ∧ pM n ≤ 12 ∧ 1 ≤ pd n ∧ pd n ≤ (if pM n = 2 then 29 else if pM n = 4 ∨ pM n = 6 ∨ pM n = 9 ∨ pM n = 11 then 30 else 31) ∧ mp (pM n) = pT n ∧ (pM n = 2 → pd n = 29 → (pA n).toNat = 365) := T
  obtain ⟨t1, t2, t3, t4, t5, t6⟩ := T
  refine ⟨⟨t1, t2, t3, ?_⟩, ?_⟩
  · unfold len
    by_cases c : pM n = 2
    · rw [if_pos c]
      rw [if_pos c] at t4
      by_cases c2 : pd n = 29
      · have a365 : pA n = 365 := by have := t6 c c2; omega
        have hy : py n = 400 * (n / 146097) + k + 1 := by
          unfold py
          have : low (pM n) = 1 := by unfold low; rw [if_pos (by omega)]
          rw [a1]; omega
        have lp : leap (py n) = true := by
          rw [leap_cyc hy]
          unfold pA at a365
          rw [a1] at a365
          split at hE
          · assumption
          · omega
        rw [lp]; simp; omega
      · split <;> omega
    · rw [if_neg c] at t4 ⊢
      exact t4
  · unfold cnt
    have hY : py n - low (pM n) = 400 * (n / 146097) + k := by unfold py; rw [a1]; omega
    rw [cyc hY h0 h1, t5]
    unfold pd pA
    rw [a1]
    omega
end Civ
end

/-! PmK -/
section
set_option Elab.async false
set_option linter.all false
set_option maxRecDepth 100000
set_option maxHeartbeats 4000000
/-! ### exceptions: what a clause matches -/
namespace PM
open PySem PySem.W L2
section
variable {M : Model} {K : Frag} {A : Around} {E : Value → Shared → Prop} {s : Shared}
open PySem.Spec PyProof.Rows
theorem forIn_units {α : Type} {f : α → PUnit → Sem (ForInStep PUnit)} : ∀ {cs : List α} {Q : PUnit → Shared → Prop}, (∀ c ∈ cs, ∀ Q : ForInStep PUnit → Shared → Prop, Q (.yield ⟨⟩) s → wpAny M A (f c ⟨⟩) Q E s) → Q ⟨⟩ s → wpAny M A (forIn cs PUnit.unit f) Q E s
  | [], Q, _, q => by rw [List.forIn_nil]; exact wpAny_pure q
  | c :: cs, Q, hf, q => by
    rw [List.forIn_cons]
    exact wpAny_bind (hf c (List.mem_cons_self ..) _ (forIn_units (fun c hc => hf c (List.mem_cons_of_mem _ hc)) q))
theorem forIn_find {α σ : Type} {f : α → σ → Sem (ForInStep σ)} {i0 d1 : σ} {p : α → Option Bool} : ∀ {cs : List α} {bs : List Bool} {Q : σ → Shared → Prop}, cs.map p = bs.map some → (∀ c ∈ cs, ∀ b, p c = some b → ∀ Q : ForInStep σ → Shared → Prop, Q (if b = true then .done d1 else .yield i0) s → wpAny M A (f c i0) Q E s) → Q (if bs.any id = true then d1 else i0) s → wpAny M A (forIn cs i0 f) Q E s
  | [], [], Q, _, _, q => by rw [List.forIn_nil]; exact wpAny_pure q
  | [], _ :: _, _, h, _, _ => by simp at h
  | _ :: _, [], _, h, _, _ => by simp at h
  | c :: cs, b :: bs, Q, h, hf, q => by
    rw [List.map_cons, List.map_cons] at h
    obtain ⟨h1, h2⟩ := List.cons.inj h
    rw [List.forIn_cons]
    refine wpAny_bind (hf c (List.mem_cons_self ..) b h1 _ ?_)
    cases b with
    | true => exact wpAny_pure (by simpa using q)
    | false => exact forIn_find h2 (fun c hc => hf c (List.mem_cons_of_mem _ hc)) (by simpa using q)
theorem exmAny_all {cls : Value} : ∀ {cs : List Value} {b : Bool}, exmAny K cls cs = some b → ∃ bs : List Bool, cs.map (exmOne K cls) = bs.map some ∧ b = bs.any id
  | [], b, h => ⟨[], rfl, (Option.some.inj h).symm⟩
  | c :: cs, b, h => by
    obtain ⟨b1, d1, x1, y1, z1⟩ := exmAny_cons h
    obtain ⟨bs, h1, h2⟩ := exmAny_all y1
    exact ⟨b1 :: bs, by rw [List.map_cons, x1, h1]; rfl, by rw [z1, h2]; rfl⟩
theorem exm_tupN {cs : List Value} {cls : Value} {tp e : Addr} {b : Bool} {h : Heap} (X : K.In h) (LT : Looks M h (typeOf (.ref e)) cls) (hp : h.get? tp = some { cls := .type "tuple", data := .seq cs.toArray }) (hx : exmAny K cls cs = some b) :
    Looks M h (excMatches (.ref e) (.ref tp)) b := by
  intro A Q E s k₀ q
  obtain ⟨hh, g, d, tk, os⟩ := s
  have k : ∀ b o, h.get? b = some o → hh.get? b = some o := k₀
  have LT0 : Looks M h (isInstance (.ref tp) (.type "tuple")) true := ((Looks.ld hp).andThen .now).andThen (Looks.of_pure isSubtype_tuple_tuple)
  obtain ⟨bs, h1, h2⟩ := exmAny_all hx
  have hall : ∀ c ∈ cs, ∃ b, exmOne K cls c = some b := fun c hc => by
    have : exmOne K cls c ∈ cs.map (exmOne K cls) := List.mem_map_of_mem hc
    rw [h1] at this
    obtain ⟨b, _, e⟩ := List.mem_map.mp this
    exact ⟨b, e.symm⟩
  have LT := LT.keeps k
  have LT0 := LT0.keeps k
  have hp' := k _ _ hp
  unfold excMatches
  refine wpAny_bind (LT0.at ?_)
  dsimp only
  rw [if_pos rfl]
  first
    | refine wpAny_bind (wpAny_seqItems hp' rfl ?_)
    | refine wpAny_bind (wpAny_bind (wpAny_seqItems hp' rfl (wpAny_pure ?_)))
  dsimp only [Option.getD_some, Option.getD]
  refine wpAny_bind (wpAny_pure (wpAny_bind (forIn_units (fun c hc Q q => ?_) ?_)))
  · obtain ⟨b, hb⟩ := hall c hc
    obtain ⟨e1, _⟩ := exm_cls (M := M) X hb
    refine wpAny_bind ((e1.keeps k).at ?_)
    simp only [Bool.not_true, Bool.false_eq_true, if_false]
    exact wpAny_pure q
  · refine wpAny_bind (LT.at ?_)
    refine wpAny_bind (forIn_find (d1 := (some true, ())) h1 (fun c hc b hb Q q => ?_) ?_)
    · obtain ⟨_, e1⟩ := exm_cls (M := M) X hb
      refine wpAny_bind ((e1.keeps k).at ?_)
      cases b with
      | true => simp only [if_true] at q ⊢; exact wpAny_pure q
      | false => simp only [Bool.false_eq_true, if_false] at q ⊢; exact wpAny_pure q
    · rw [h2] at q
      cases hb : bs.any id with
      | true => rw [hb] at q; simp only [if_true]; exact wpAny_pure q
      | false => rw [hb] at q; simp only [Bool.false_eq_true, if_false]; exact wpAny_pure q
end
end PM
end

/-! PmL -/
section
set_option Elab.async false
set_option linter.all false
set_option maxRecDepth 100000
set_option maxHeartbeats 4000000
/-! ### try .. except -/
namespace PM
open PySem L2 PySem.Spec PyProof.Rows
section
variable {X : Cx} {pins : List (Addr × Obj)} {σ : L2.St} {H : Hp} {s sI s' : Shared} {B : Heap} {a : Addr} {o : HO}
theorem adopt (I : L2.Inv X pins σ H sI) (nb : ∀ b o, sI.heap.get? b = some o → b ∉ frs X.stack → B.get? b = some o) (st : B.StaysIn s'.heap) (up : sI.heap.UpToSlots s'.heap) (os : s'.os = sI.os) (ag : AllBare s'.gens)
    (ne : sI.heap.get? a = none) (na : H a = none) (new : ∀ H', ObjOk X.prog X.w H' s'.heap a o) : L2.Inv X pins σ (upd H a o) s' := by
  have nf : ∀ b ∈ frs X.stack, ∀ o, sI.heap.get? b = some o → ∃ sl, s'.heap.get? b = some { o with slots := sl } := fun b hb o e => by
    obtain ⟨_, o', e', hd⟩ := I.stack.mem hb
    rw [e] at e'; cases e'
    exact up b o e hd
  have J := I.call (ch := []) (h' := s'.heap) (g' := s'.gens) (t' := s'.toks) (d' := s'.drawn) (H' := upd H a o)
    ⟨fun b o e _ hb _ => st b o (nb b o e hb), fun b o e _ hb _ => nf b hb o e, fun b o e n _ => by rw [upd_ne (fun z => by rw [z, ne] at e; cases e)]; exact n, fun b o e _ => by
      by_cases hb : b ∈ frs X.stack
      · obtain ⟨sl, q⟩ := nf b hb o e
        exact ⟨_, q⟩
      · exact ⟨o, st b o (nb b o e hb)⟩, fun b xs e => by rw [upd_ne (ne_of_none e na)]; exact e, fun b _ _ e => by rw [upd_ne (ne_of_none e na)]; exact e, fun b ps e => ⟨#[], by rw [upd_ne (ne_of_none e na), e]; simp⟩⟩
    (fun b ob e => by
      by_cases hb : b = a
      · subst hb
        rw [upd_same] at e
        cases e
        exact new _
      · rw [upd_ne hb] at e
        exact (((I.inGround nb).kept st) b ob e).stay (fun _ _ _ q => q) (fun c hc => by rw [upd_ne (ne_of_none hc na)]; exact hc) (fun c xs hc => by rw [upd_ne (ne_of_none hc na)]; exact hc)) ag (fun _ z => nomatch z)
  obtain ⟨a1, a2, a3, a4, a5⟩ := s'
  have e5 : a5 = sI.os := os
  subst e5
  exact J
theorem suite0 (I : L2.Inv X pins σ H s) (a : Addr) : L2.Inv (X.suite a (X.pn ++ pins)) [] σ H s :=
  ⟨I.ok.suite _ _, I.os, I.bare, I.base, I.loc, I.cell, I.free, I.freeC, fun p hp => I.pin p (by rw [List.append_nil] at hp; exact hp), I.hok, I.len⟩
theorem unsuite0 {pn' : List (Addr × Obj)} (I : L2.Inv (X.suite a (X.pn ++ pins)) pn' σ H s) (ok : X.Ok) : L2.Inv X pins σ H s :=
  ⟨ok, I.os, I.bare, I.base, I.loc, I.cell, I.free, I.freeC, fun p hp => I.pin p (List.mem_append_left _ hp), I.hok, I.len⟩
theorem fly_keeps {B h h' : Heap} {l : List Env} {Z : Obj → Prop} (R : HandSPX.FlyingZ B l a Z h) (k : ∀ b o, h.get? b = some o → h'.get? b = some o) : HandSPX.FlyingZ B l a Z h' := by
  obtain ⟨f1, f2, f3, oe, ws, T, oT, ts, he, hc, hd, h1, hn, hne, hT, hdT, h3⟩ := R
  exact ⟨fun b o q => k b o (f1 b o q), f2, f3.of_keeps fun b o q _ => ⟨o, k b o q, rfl⟩, oe, ws, T, oT, ts, k _ _ he, hc, hd, h1, hn, hne, k _ _ hT, hdT, h3⟩
end
/-! the clauses -/
inductive HCl where
  | xc (c : Str) | ty (n : String)
  deriving DecidableEq
def HCl.v (K : PySem.W.Frag) : HCl → Value
  | .xc c => .ref (He.ga K c)
  | .ty n => .type n
inductive TstE (X : Cx) : Expr → List HCl → Prop
  | one {x : Str} {p : Pos} {c : HCl} : Names X x (c.v X.K) → TstE X (.Name x p) [c]
  | tup {l : List (Str × Pos × HCl)} {k : Nat} {p : Pos} : (∀ q ∈ l, Names X q.1 (q.2.2.v X.K)) → l.length ≤ 1000 → TstE X (.Tuple (l.map fun q => .Name q.1 q.2.1) k p) (l.map (·.2.2))
section
variable {X : Cx} {pins : List (Addr × Obj)} {σ : L2.St} {H : Hp} {s : Shared} {a : Addr} {E : Value → Shared → Prop}
theorem name_run {x : Str} {np : Pos} {c : Value} (hc : Names X x c) (I : L2.Inv X pins σ H s) {Q : Value → Shared → Prop} (q : Q c s) : wpAny (model X.prog X.w) X.A (eval (.Name x np) X.env) Q E s := by
  obtain ⟨hg, hdbg, hm | ⟨hm, hv, hnn⟩⟩ := hc
  · exact ld_glob I hg hm q hdbg
  · exact ld_blt I hg hm hv q hnn hdbg
theorem items_run (pos : Pos) : ∀ {l : List (Str × Pos × HCl)} {Q : List Value → Shared → Prop}, (∀ q ∈ l, Names X q.1 (q.2.2.v X.K)) → L2.Inv X pins σ H s → Q (l.map fun q => q.2.2.v X.K) s →
    wpAny (model X.prog X.w) X.A (spliced (backTo pos (starEach (l.map fun q => Expr.Name q.1 q.2.1) X.env))) Q E s
  | [], Q, _, _, q => wpAny_items_nil q
  | y :: l, Q, h, I, q => wpAny_items_cons (name_run (h y (List.mem_cons_self ..)) I (items_run pos (fun z hz => h z (List.mem_cons_of_mem _ hz)) I q))
theorem tst_run {te : Expr} {cs : List HCl} {cls : Value} {b : Bool} (T : TstE X te cs) (I : L2.Inv X pins σ H s) (LT : PySem.W.Looks (model X.prog X.w) s.heap (typeOf (.ref a)) cls) (hx : PySem.W.exmAny X.K cls (cs.map (HCl.v X.K)) = some b) {Q : Bool → Shared → Prop}
    (q : ∀ h', (∀ b o, s.heap.get? b = some o → h'.get? b = some o) → Q b { s with heap := h' }) : wpAny (model X.prog X.w) X.A (eval te X.env) (fun c s₁ => wpAny (model X.prog X.w) X.A (excMatches (.ref a) c) Q E s₁) E s := by
  cases T with
  | one hn =>
    refine name_run hn I ?_
    obtain ⟨b1, d1, x1, y1, z1⟩ := PySem.W.exmAny_cons hx
    obtain rfl : false = d1 := Option.some.inj y1
    rw [Bool.or_false] at z1
    subst z1
    exact (PySem.W.exm_one I.kIn LT x1).here (q _ fun _ _ e => e)
  | @tup l kk p hn hl =>
    refine wpAny_Tuple (items_run _ hn I ⟨by rw [List.length_map, sizeLine_eq]; omega, ?_⟩)
    have kp : ∀ b o, s.heap.get? b = some o → (s.heap.push { cls := .type "tuple", data := .seq (l.map fun q => q.2.2.v X.K).toArray }).get? b = some o := fun _ _ z => Heap.get?_push_of_some _ z
    rw [List.map_map] at hx
    exact (exm_tupN (I.kIn.keeps kp) (LT.keeps kp) (Heap.get?_push_size s.heap rfl) hx).here (q _ kp)
end
def anyM (xm : Str → HCl → Option Bool) (c : Str) : List HCl → Option Bool
  | [] => some false
  | h :: r => match xm c h, anyM xm c r with
    | some b, some d => some (b || d)
    | _, _ => none
def XmOk (K : PySem.W.Frag) (xm : Str → HCl → Option Bool) : Prop := ∀ c h b, xm c h = some b → PySem.W.exmOne K (.ref (He.ga K c)) (h.v K) = some b
theorem anyM_ok {K : PySem.W.Frag} {xm : Str → HCl → Option Bool} (hX : XmOk K xm) {c : Str} : ∀ {cs : List HCl} {b : Bool}, anyM xm c cs = some b → PySem.W.exmAny K (.ref (He.ga K c)) (cs.map (HCl.v K)) = some b
  | [], _, h => h
  | x :: cs, b, h => by
    unfold anyM at h
    split at h
    · rename_i b1 d1 h1 h2
      rw [List.map_cons]
      unfold PySem.W.exmAny
      rw [hX _ _ _ h1, anyM_ok hX h2]
      exact h
    · cases h
structure HSpec where
  cs : List HCl
  j : Option Nat
  su : MS
def clrS (j : Option Nat) (e : Slots) : Slots := match j with
  | some j => e.set j none
  | none => e
def clrV (j : Option Nat) (σ : L2.St) : L2.St := match j with
  | some j => σ.set j none
  | none => σ
def unsetR (j : Option Nat) : SR → SR
  | .next e s => .next (clrS j e) s
  | .brk e s => .brk (clrS j e) s
  | .cont e s => .cont (clrS j e) s
  | .ret d s => .ret d s
  | .exc _ _ _ => .bad
  | .bad => .bad
def setX (j : Option Nat) (x : Exn) (e : Slots) : Slots := match j with
  | some j => e.set j (some (.exn x.cls x.fs))
  | none => e
def handF (xm : Str → HCl → Option Bool) : List HSpec → Exn → Slots → Sto → SR
  | [], x, e, s => .exc x e s
  | h :: r, x, e, s => match anyM xm x.cls h.cs with
    | some true => unsetR h.j (h.su (setX h.j x e) s)
    | some false => handF xm r x e s
    | none => .bad
def mTry (xm : Str → HCl → Option Bool) (b : MS) (l : List HSpec) : MS := fun e s => match b e s with
  | .exc x e1 s1 => handF xm l x e1 s1
  | r => r
def SlotOk (X : Cx) : Option Str → Option Nat → Prop
  | none, none => True
  | some n, some i => X.N[i]? = some n ∧ X.env.kindOf n = some .local
  | _, _ => False
inductive HdsP (X : Cx) (cm : Str → Option Addr) : List ExceptHandler → List HSpec → Prop
  | nil : HdsP X cm [] []
  | cons {te : Expr} {nm : Option Str} {b₀ : Stmt} {suite : List Stmt} {pos : Pos} {cs : List HCl} {j : Option Nat} {su : MS} {hds : List ExceptHandler} {l : List HSpec} (T : TstE X te cs) (hj : SlotOk X nm j) (hs : ∀ a pn, Pss (X.suite a pn) cm W0 (b₀ :: suite) su) (r : HdsP X cm hds l) :
      HdsP X cm (.ExceptHandler (some te) nm (b₀ :: suite) pos :: hds) (⟨cs, j, su⟩ :: l)
def clrD (j : Option Nat) (D : Ends) : Ends := { nx := fun σ H => D.nx (clrV j σ) H, rt := D.rt, bk := fun σ H => D.bk (clrV j σ) H, ct := fun σ H => D.ct (clrV j σ) H }
section
variable {K : PySem.W.Frag} {cm : Str → Option Addr} {F : Hp} {ι : Io} {W : WX}
theorem repE_clr {e : Slots} {σ : L2.St} {j : Option Nat} (r : RepE K cm F ι e σ) : RepE K cm F ι (clrS j e) (clrV j σ) := by
  cases j with
  | none => exact r
  | some j => exact r.unset j
theorem spost_unset {j : Option Nat} {r : SR} {D : Ends} (h : SPost K cm W F ι (unsetR j r) D) : SPost K cm W0 F ι r (clrD j D) := by
  cases r with
  | next e s => exact fun F' ι' H' σ' le ge w r => h F' ι' H' _ le ge w (repE_clr r)
  | brk e s => exact fun F' ι' H' σ' le ge w r => h F' ι' H' _ le ge w (repE_clr r)
  | cont e s => exact fun F' ι' H' σ' le ge w r => h F' ι' H' _ le ge w (repE_clr r)
  | ret d s => exact h
  | exc x e s => exact h.elim
  | bad => exact h
/-- what is wished of an exception of the body -/
def wX (K : PySem.W.Frag) (cm : Str → Option Addr) (W : WX) (xm : Str → HCl → Option Bool) (l : List HSpec) (D : Ends) : WX := fun cls d σ H => ∃ F ι x env s, Wd K cm F ι s H ∧ RepE K cm F ι env σ ∧ ExR K cm F ι x cls d ∧ SPost K cm W F ι (handF xm l x env s) D
theorem spost_try {xm : Str → HCl → Option Bool} {b : MS} {l : List HSpec} {e : Slots} {s : Sto} {D : Ends} (h : SPost K cm W F ι (mTry xm b l e s) D) : SPost K cm (wX K cm W xm l D) F ι (b e s) D := by
  unfold mTry at h
  cases hb : b e s with
  | exc x e1 s1 =>
    rw [hb] at h
    exact fun F' ι' H' σ' c dd le ge w r xr => ⟨F', ι', x, e1, s1, w, r, xr, SPost.mono le ge h⟩
  | next e s => rw [hb] at h; exact h
  | brk e s => rw [hb] at h; exact h
  | cont e s => rw [hb] at h; exact h
  | ret d s => rw [hb] at h; exact h
  | bad => rw [hb] at h; exact h.elim
end
end PM
end

/-! PmM -/
section
set_option Elab.async false
set_option linter.all false
set_option maxRecDepth 100000
set_option maxHeartbeats 4000000
/-! ### try: the rule -/
namespace PM
open PySem L2 PySem.Spec PyProof.Rows
section
variable {X : Cx} {cm : Str → Option Addr} {W : WX} {body : List Stmt} {h₀ : ExceptHandler} {hds : List ExceptHandler} {pos : Pos} {xm : Str → HCl → Option Bool} {mb : MS} {l : List HSpec}
theorem qs_try (hs : X.stack = X.env :: X.outer) (hf : X.env.frame = some X.env.locals) (hN : X.N.Nodup) (tk : Takes X W) (hX : XmOk X.K xm)
    (hb : ∀ (W' : WX) (pn : List (Addr × Obj)) (xe : Value → Shared → Prop), Takes (X.tr pn xe) W' → PassesOwn (model X.prog X.w) X.A X.env xe → Pss (X.tr pn xe) cm W' body mb)
    (hh : HdsP X cm (h₀ :: hds) l) : Ps X cm W (.Try body (h₀ :: hds) [] [] pos) (mTry xm mb l) := by
  refine ⟨fun pins s σ H D I h => ?_⟩
  have ok := I.ok
  have hfr : X.A.frames = some (X.env :: X.outer) := by rw [ok.frames, hs]
  obtain ⟨F0, ι0, e0, s0, w0, r0, q0⟩ := h
  refine wpAny_Try_except ?_
  refine wpAny_mono ((hb (wX X.K cm W xm l D) (X.pn ++ pins) (fun e s₁ => wpAny (model X.prog X.w) X.A (noteFrame e X.env) (fun _ s₂ => wpAny (model X.prog X.w) X.A (setFlight e none) (fun _ s₃ =>
    wpAny (model X.prog X.w) X.A (handleBy e X.env (h₀ :: hds)) (SP X pins D) X.xe s₃) X.xe s₂) X.xe s₁) (fun u s' xx => ?_) PassesOwn.looking).run [] s σ H D (I.toTry _) ⟨F0, ι0, e0, s0, w0, r0, spost_try q0⟩) (fun f s1 hsp => ?_) (fun e s1 he => he)
  · -- the catch
    obtain ⟨a, B, sI, pins', σ', H', cls, d, rfl, J', nb, up, sky, na, os, ag, F, ι, x, env, st, w, r, xr, sp⟩ := xx
    have J : L2.Inv X pins σ' H' sI := J'.ofTry ok
    have sky' : Sky B (X.env :: X.outer) a (Zc cls d) X.env.locals s'.heap := by rw [← hs]; exact sky
    show wpAny (model X.prog X.w) X.A (noteFrame (.ref a) X.env) _ _ _
    refine Sky.land Zc.steady hfr hf sky' fun h3 fl3 up3 => ?_
    have notFr : ∀ {h : Heap} {o : Obj} {vs : Array Value}, h.FunFrames B (X.env :: X.outer) → h.get? a = some o → o.data = .fields vs → a ∉ frs (X.env :: X.outer) := fun {h o vs} ff e dd hm => by
      obtain ⟨_, o', e', hnf⟩ := ff.mem hm
      rw [e] at e'; cases e'
      exact hnf _ dd
    obtain ⟨oe3, vs3, he3, hz3, hd3⟩ := fl3.there
    have nfr := notFr fl3.2.2.1 he3 hd3
    have neI : sI.heap.get? a = none := by
      cases e : sI.heap.get? a with
      | none => rfl
      | some o => have := nb a o e (by rw [hs]; exact nfr); rw [fl3.2.1] at this; cases this
    have go : ∀ {hds' : List ExceptHandler} {l' : List HSpec} {h : Heap}, HdsP X cm hds' l' → HandSPX.FlyingZ B (X.env :: X.outer) a (Zc cls d) h → s'.heap.UpToSlots h → SPost X.K cm W F ι (handF xm l' x env st) D →
        wpAny (model X.prog X.w) X.A (handleBy (.ref a) X.env hds') (SP X pins D) X.xe { s' with heap := h } := by
      intro hds' l' h hk
      induction hk generalizing h with
      | nil =>
        intro fl upk sp
        refine wpAny_handleBy_nil ?_
        obtain ⟨k1, k2, k3, oe, vs, T, oT, ts', he, hz, hd, h1, hr⟩ := id fl
        unfold PySem.passOn
        refine wpAny_bind (wpAny_field he hd h1 ?_)
        rw [if_neg (show ¬ ((Value.ref T == Value.none) = true) from by simp)]
        have fin : wpAny (model X.prog X.w) X.A (setFlight (.ref a) X.env.frame) (fun _ s4 => wpAny (model X.prog X.w) X.A (throw (.ref a) : Sem Flow) (SP X pins D) X.xe s4) X.xe { s' with heap := h } := by
          rw [hf]
          refine HandSPX.setFlight_upZ fl fun h4 hh4 up4 => wpAny_throw (tk _ _ ?_)
          exact ⟨a, B, sI, pins, σ', H', cls, d, rfl, J, nb, (up.trans upk).trans up4, .inr (.inr (by rw [hs]; exact hh4)), na, os, ag, sp F ι H' σ' cls d .refl .refl w r xr⟩
        first
          | exact wpAny_bind (wpAny_pure (wpAny_bind fin))
          | exact wpAny_bind fin
      | @cons te nm b₀ suite pos' cs j su hds2 l2 T hj hsu rr ih =>
        intro fl upk sp
        obtain ⟨oe, vs, he, hz, hd⟩ := fl.there
        have J3 : L2.Inv X pins σ' H' { s' with heap := h } := J.landed nb fl.1 (up.trans upk) os ag
        unfold handF at sp
        dsimp only at sp
        cases hm : anyM xm x.cls cs with
        | none => rw [hm] at sp; exact sp.elim
        | some b =>
          rw [hm] at sp
          obtain ⟨ec, xf⟩ := id xr
          have hx := anyM_ok hX hm
          rw [← ec] at hx
          refine wpAny_handleBy_cons (codeAny_handlers_test ?_) (by intro q; cases q)
          have LT : PySem.W.Looks (model X.prog X.w) h (typeOf (.ref a)) cls := fun A Q E s k q => wpAny_typeOf_ref (k _ _ he) (by rw [hz.1]; exact q)
          have S3 := suite0 J3 a
          have T' : TstE (X.suite a (X.pn ++ pins)) te cs := by
            cases T with
            | one hn => exact .one hn
            | tup hn hl => exact .tup hn hl
          refine tst_run T' S3 LT hx fun h5 kp => ?_
          have fl5 := fly_keeps fl kp
          have up5 : s'.heap.UpToSlots h5 := upk.trans (Heap.UpToSlots.of_keeps kp)
          cases b with
          | false =>
            show wpAny _ X.A (handleBy (.ref a) X.env hds2) _ _ _
            exact ih fl5 up5 sp
          | true =>
            have spu := spost_unset (show SPost X.K cm W F ι (unsetR j (su (setX j x env) st)) D from sp)
            have suiteI : ∀ {h4 : Heap}, HandSPX.FlyingZ B (X.env :: X.outer) a (Zc cls d) h4 → s'.heap.UpToSlots h4 → L2.Inv X pins σ' (upd H' a (ExH a (He.ga X.K x.cls) d)) { s' with heap := h4 } := fun {h4} fl4 up4 => by
              obtain ⟨oe4, vs4, he4, hz4, hd4⟩ := fl4.there
              rw [ec] at hz4
              exact adopt J nb fl4.1 (up.trans up4) os ag neI na fun H2 => exH_ok he4 hz4 hd4
            have w4 : Wd X.K cm (upd F a (ExH a (He.ga X.K x.cls) d)) ι st (upd H' a (ExH a (He.ga X.K x.cls) d)) := w.frz na
            have le4 : Le F (upd F a (ExH a (He.ga X.K x.cls) d)) := Le.new (w.fresh na)
            have rx : Rep X.K cm (upd F a (ExH a (He.ga X.K x.cls) d)) ι (.exn x.cls x.fs) (.ref a) := by
              rcases xf with ⟨xf, xd⟩ | ⟨dx, gs, h1, h2, h3⟩
              · rw [xf]; exact .exn0 (by rw [upd_same, xd])
              · rw [h1]; exact .exn upd_same (by rw [← h1]; exact le4 _ _ h2) (by rw [← h1]; exact h3.mono le4 .refl)
            have fin : ∀ {h4 : Heap} {s5 : Shared} {σ5 : L2.St}, L2.Inv (X.suite a (X.pn ++ pins)) [] σ5 (upd H' a (ExH a (He.ga X.K x.cls) d)) s5 → RepE X.K cm (upd F a (ExH a (He.ga X.K x.cls) d)) ι (setX j x env) σ5 →
                wpAny (model X.prog X.w) (X.suite a (X.pn ++ pins)).A (execs (b₀ :: suite) X.env) (SP (X.suite a (X.pn ++ pins)) [] (clrD j D)) (fun _ _ => False) s5 := fun {h4 s5 σ5} S5 r5 =>
              (hsu a (X.pn ++ pins)).run [] s5 σ5 _ _ S5 ⟨_, ι, setX j x env, st, w4, r5, SPost.mono le4 .refl spu⟩
            cases nm with
            | none =>
              cases j with
              | some j => exact hj.elim
              | none =>
                refine codeAny_handlers_suite ?_
                refine HandSPX.lands_againZ fl5 fun h4 fl4 up4 => ?_
                have J4 := suiteI fl4 (up5.trans up4)
                refine wpAny_mono (fin (h4 := h4) (suite0 J4 a) (r.mono le4 .refl)) (fun f s6 hsp => ?_) (fun _ _ z => False.elim z)
                cases f with
                | next => obtain ⟨σ6, H6, S6, q6⟩ := hsp; exact ⟨_, _, unsuite0 S6 ok, q6⟩
                | brk => obtain ⟨σ6, H6, S6, q6⟩ := hsp; exact ⟨_, _, unsuite0 S6 ok, q6⟩
                | cont => obtain ⟨σ6, H6, S6, q6⟩ := hsp; exact ⟨_, _, unsuite0 S6 ok, q6⟩
                | ret u => obtain ⟨v6, σ6, H6, S6, r6, q6⟩ := hsp; exact ⟨_, _, _, unsuite0 S6 ok, r6, q6⟩
            | some n =>
              cases j with
              | none => exact hj.elim
              | some j =>
                obtain ⟨hi, hln⟩ := hj
                have hloc : Loc X.env.scope n := .inl hln
                refine codeAny_handlers_suite_as ?_
                refine HandSPX.lands_againZ fl5 fun h4 fl4 up4 => ?_
                have J4 := suiteI fl4 (up5.trans up4)
                refine store_ok (X := X.suite a (X.pn ++ pins)) (v := .ref a) (suite0 J4 a) hN hi hloc rfl (fun s5 S5 => ?_) (.inr hln)
                refine wpAny_mono (fin (h4 := h4) S5 ((r.mono le4 .refl).set rx j)) (fun f s6 hsp => ?_) (fun _ _ z => False.elim z)
                have end_ : ∀ {σ6 : L2.St} {H6 : Hp} {Q : Shared → Prop}, L2.Inv (X.suite a (X.pn ++ pins)) [] σ6 H6 s6 → (∀ s7, L2.Inv X pins (σ6.set j none) H6 s7 → Q s7) →
                    wpAny (model X.prog X.w) X.A (do bindName X.env n .none; unbindBehindTheSuite X.env n pos') (fun _ s7 => Q s7) X.xe s6 := fun {σ6 H6 Q} S6 hq => gone_ok (unsuite0 S6 ok) hN hi hln hq
                cases f with
                | next => obtain ⟨σ6, H6, S6, q6⟩ := hsp; exact end_ S6 fun s7 J7 => ⟨_, _, J7, q6⟩
                | brk => obtain ⟨σ6, H6, S6, q6⟩ := hsp; exact end_ S6 fun s7 J7 => ⟨_, _, J7, q6⟩
                | cont => obtain ⟨σ6, H6, S6, q6⟩ := hsp; exact end_ S6 fun s7 J7 => ⟨_, _, J7, q6⟩
                | ret u => obtain ⟨v6, σ6, H6, S6, r6, q6⟩ := hsp; exact end_ S6 fun s7 J7 => ⟨_, _, _, J7, r6, q6⟩
    exact go hh fl3 up3 sp
  · cases f with
    | next => obtain ⟨σ', H', J', q⟩ := hsp; exact wpAny_execs_nil ⟨σ', H', J'.ofTry ok, q⟩
    | brk => obtain ⟨σ', H', J', q⟩ := hsp; exact ⟨σ', H', J'.ofTry ok, q⟩
    | cont => obtain ⟨σ', H', J', q⟩ := hsp; exact ⟨σ', H', J'.ofTry ok, q⟩
    | ret u => obtain ⟨v, σ', H', J', r, q⟩ := hsp; exact ⟨v, σ', H', J'.ofTry ok, r, q⟩
end
end PM
end

/-! PmN -/
section
set_option Elab.async false
set_option linter.all false
set_option maxRecDepth 100000
set_option maxHeartbeats 4000000
/-! ### raise: an own class over ValueError, whose __init__ lays its parameters into fields -/
namespace PM
open PySem L2 PySem.Spec PyProof.Rows
/-- what such an __init__ promises -/
def spI (K : PySem.W.Frag) (fs : List Str) : Sp := fun xs H Q E => ∃ a C vs, xs = .ref a :: vs ∧ vs.length = fs.length ∧ OexC K C ∧ (∀ f ∈ fs, PySem.W.findIn K (.ref C) f = some none) ∧ H a = some (exo a C none) ∧
  ∀ d H2, H2 a = some (exo a C (some d)) → H2 d = some (exd d (fs.zip vs).reverse) → d ≠ a → (∀ b, b ≠ a → b ≠ d → H2 b = H b) → H d = none → Q .non H2
theorem visOf {sc : Scope} {x : Str} (h : sc.names.lookup x = some .local ∨ sc.names.lookup x = some .cell) : Vis sc x := h.elim .inl fun h => .inr (.inl h)
section
variable {P : Program} {w : World} {K : PySem.W.Frag} {mg : Str → Option Value} {base : Heap} {a : Addr} {fd : FuncData} {q f g : Str} {st : Stmt}
theorem fnI1 {x1 x2 : Str} {p1 p2 p3 pos : Pos} (FD : FunD K "__init__" q (defArgs st) (defBody st) (defScope st) [] [] a fd) (S : FnScope [x1, x2] [x1, x2] (defScope st)) (hb : defBody st = [.Assign [.Attribute (.Name x1 p1) f p2] (.Name x2 p3) pos])
    (hd1 : (x1 == ("__debug__" : Str)) = false := by decide) (hd2 : (x2 == ("__debug__" : Str)) = false := by decide) (hc1 : (x1 == ("__classdict__" : Str)) = false := by decide) (hc2 : (x2 == ("__classdict__" : Str)) = false := by decide) : FnOk P w K mg base (L2.CX P w) 1 a fd [x1, x2] (spI K [f]) := by
  refine FunD.ok FD S (fun vs H Q E ⟨a, C, ws, e, l, _⟩ => by rw [e, List.length_cons, l]; rfl) fun cdv A outer s H vs Q E hr h => ?_
  rw [hb]
  obtain ⟨b, C, ws, rfl, hl, T, hf, e, k⟩ := h
  obtain ⟨y, rfl⟩ : ∃ y, ws = [y] := by
    match ws, hl with
    | [y], _ => exact ⟨y, rfl⟩
  refine ⟨_, pss_one (ps_ost (pe_var (i := 0) rfl (visOf (S.par _ (List.mem_cons_self ..))) hd1 hc1) (pe_var (i := 1) rfl (visOf (S.par _ (List.mem_cons_of_mem _ (List.mem_cons_self ..)))) hd2 hc2)), ?_⟩
  refine ⟨y, rfl, .ref b, rfl, b, C, rfl, T, hf _ (List.mem_cons_self ..), .inl ⟨e, fun dx n ne => ?_⟩⟩
  exact k dx _ upd_same (by rw [upd_ne ne, upd_same]; rfl) ne (fun c h1 h2 => by rw [upd_ne h1, upd_ne h2]) n
theorem fnI2 {x1 x2 x3 : Str} {p1 p2 p3 p4 p5 p6 pos pos2 : Pos} (FD : FunD K "__init__" q (defArgs st) (defBody st) (defScope st) [] [] a fd) (S : FnScope [x1, x2, x3] [x1, x2, x3] (defScope st))
    (hb : defBody st = [.Assign [.Attribute (.Name x1 p1) f p2] (.Name x2 p3) pos, .Assign [.Attribute (.Name x1 p4) g p5] (.Name x3 p6) pos2])
    (hd1 : (x1 == ("__debug__" : Str)) = false := by decide) (hd2 : (x2 == ("__debug__" : Str)) = false := by decide) (hd3 : (x3 == ("__debug__" : Str)) = false := by decide) (hc1 : (x1 == ("__classdict__" : Str)) = false := by decide) (hc2 : (x2 == ("__classdict__" : Str)) = false := by decide) (hc3 : (x3 == ("__classdict__" : Str)) = false := by decide) : FnOk P w K mg base (L2.CX P w) 1 a fd [x1, x2, x3] (spI K [f, g]) := by
  refine FunD.ok FD S (fun vs H Q E ⟨a, C, ws, e, l, _⟩ => by rw [e, List.length_cons, l]; rfl) fun cdv A outer s H vs Q E hr h => ?_
  rw [hb]
  obtain ⟨b, C, ws, rfl, hl, T, hf, e, k⟩ := h
  obtain ⟨y, z, rfl⟩ : ∃ y z, ws = [y, z] := by
    match ws, hl with
    | [y, z], _ => exact ⟨y, z, rfl⟩
  have v1 := visOf (S.par x1 (List.mem_cons_self ..))
  have v2 := visOf (S.par x2 (List.mem_cons_of_mem _ (List.mem_cons_self ..)))
  have v3 := visOf (S.par x3 (List.mem_cons_of_mem _ (List.mem_cons_of_mem _ (List.mem_cons_self ..))))
  refine ⟨_, pss_cons (ps_ost (pe_var (i := 0) rfl v1 hd1 hc1) (pe_var (i := 1) rfl v2 hd2 hc2)) (pss_one (ps_ost (pe_var (i := 0) rfl v1 hd1 hc1) (pe_var (i := 2) rfl v3 hd3 hc3))), ?_⟩
  refine ⟨y, rfl, .ref b, rfl, b, C, rfl, T, hf _ (List.mem_cons_self ..), .inl ⟨e, fun dx n ne => ?_⟩⟩
  refine ⟨z, rfl, .ref b, rfl, b, C, rfl, T, hf _ (List.mem_cons_of_mem _ (List.mem_cons_self ..)), .inr ⟨dx, [(f, y)], upd_same, by rw [upd_ne ne, upd_same], (show 1 ≤ 900 by omega), ?_⟩⟩
  exact k dx _ (by rw [upd_ne (Ne.symm ne), upd_same]) upd_same ne (fun c h1 h2 => by rw [upd_ne h2, upd_ne h1, upd_ne h2]) n
end
/-- what a class must have to be raised so -/
structure XcD (P : Program) (w : World) (K : PySem.W.Frag) (mg : Str → Option Value) (base : Heap) (c : Str) (fs : List Str) : Prop where
  T : OexC K (He.ga K c)
  mgc : mg c = some (.ref (He.ga K c))
  ini : ∃ fI fd ps, PySem.W.findIn K (.ref (He.ga K c)) "__init__" = some (some (.ref fI)) ∧ PySem.W.typeIn K (.ref fI) = some (.type "function") ∧ FnOk P w K mg base (L2.CX P w) 1 fI fd ps (spI K fs) ∧ Binds K fd ps []
  nof : ∀ f ∈ fs, PySem.W.findIn K (.ref (He.ga K c)) f = some none
def mRaise (c : Str) (fs : List Str) (m : M (List D)) : MS := fun e s => (m e s).toS e fun ds s => if ds.length = fs.length ∧ fs.length ≤ 100 then .exc ⟨c, (fs.zip ds).reverse⟩ e s else .bad
theorem RepF.app {K : PySem.W.Frag} {cm : Str → Option Addr} {F : Hp} {ι : Io} : ∀ {a b : List (Str × D)} {c d : List (Str × V)}, RepF K cm F ι a c → RepF K cm F ι b d → RepF K cm F ι (a ++ b) (c ++ d)
  | _, _, _, _, .nil, h => h
  | _, _, _, _, .cons r t, h => .cons r (t.app h)
theorem RepF.rev {K : PySem.W.Frag} {cm : Str → Option Addr} {F : Hp} {ι : Io} : ∀ {a : List (Str × D)} {c : List (Str × V)}, RepF K cm F ι a c → RepF K cm F ι a.reverse c.reverse
  | _, _, .nil => .nil
  | _, _, .cons r t => by rw [List.reverse_cons, List.reverse_cons]; exact t.rev.app (.cons r .nil)
theorem RepF.zip {K : PySem.W.Frag} {cm : Str → Option Addr} {F : Hp} {ι : Io} : ∀ {fs : List Str} {ds : List D} {vs : List V}, RepL K cm F ι ds vs → RepF K cm F ι (fs.zip ds) (fs.zip vs)
  | [], _, _, _ => .nil
  | _ :: _, _, _, .nil => .nil
  | _ :: _, _, _, .cons r t => .cons r (RepF.zip t)
section
variable {X : Cx} {cm : Str → Option Addr} {W : WX} {e : Expr} {es : List Expr} {m : M (List D)} {c : Str} {fs : List Str} {p pos pos' : Pos}
theorem qs_raise (hc : X.calm = true) (tk : Takes X W) (D : XcD X.prog X.w X.K X.mg X.base c fs) (hr : Room 2 X.A) (ha : Pa X cm W (e :: es) m) (hg : Gl X c := by rfl)
    (hdb : (c == ("__debug__" : Str)) = false := by decide) (he : starEach (e :: es) X.env = (false, eval e X.env) :: starEach es X.env := by rfl) (hpl : (backTo pos (starEach es X.env)).any (·.1) = false := by rfl) :
    Ps X cm W (.Raise (some (.Call (.Name c p) (e :: es) [] pos)) none pos') (mRaise c fs m) := by
  obtain ⟨fI, fd, ps, iC, tI, F1, hb⟩ := D.ini
  refine ps_imp (ps_raise hc tk (pmk_oex (dvs := []) D.T iC tI F1 hr hb .nil (fun pins σ H s er s' I z => ?_) hg D.mgc ha hdb he hpl)) fun E σ H ⟨F, ι, env, s, w, r, q⟩ => ?_
  · obtain ⟨_, _, _, _, _, _, _, _, _, _, _, _, z⟩ := z
    exact z.elim
  · refine ⟨F, ι, env, s, w, r, (toS_split r q).imp fun vs H1 ⟨F1, ι1, ds, s1, le, ge, w1, rd, q1⟩ => ?_⟩
    by_cases c1 : ds.length = fs.length ∧ fs.length ≤ 100
    · rw [if_pos c1] at q1
      have hl := rd.length
      refine ⟨by omega, fun a na => ⟨a, _, vs, by rw [List.append_nil], by omega, D.T, D.nof, upd_same, fun d H2 h1 h2 ne h3 h4 => ⟨rfl, d, _, h1, h2, ?_, ?_⟩⟩⟩
      · rw [upd_ne ne] at h4; exact h4
      · have hd : H1 d = none := by rw [upd_ne ne] at h4; exact h4
        have eH : upd (del H2 a) d (.xd (fs.zip vs).reverse) = upd H1 d (.xd (fs.zip vs).reverse) := by
          funext b
          by_cases hb : b = d
          · rw [hb, upd_same, upd_same]
          · rw [upd_ne hb, upd_ne hb]
            by_cases hba : b = a
            · rw [hba, del_same, na]
            · rw [del_ne hba, h3 b hba hb, upd_ne hba]
        rw [eH]
        have le2 : Le F1 (upd F1 d (.xd (fs.zip vs).reverse)) := Le.new (w1.fresh hd)
        exact q1 _ ι1 _ σ _ _ le2 .refl (w1.frz hd) ((r.mono le ge).mono le2 .refl) ⟨rfl, .inr ⟨d, _, rfl, upd_same, (RepF.zip (rd.mono le2 .refl)).rev⟩⟩
    · rw [if_neg c1] at q1; exact q1.elim
end
end PM
end

/-! PmO -/
section
set_option Elab.async false
set_option linter.all false
set_option maxRecDepth 100000
set_option maxHeartbeats 4000000
/-! ### an exception as a value: its fields, isinstance -/
namespace PM
open PySem L2 PySem.Spec PyProof.Rows
/-- kept.f: xs the exception classes that may be asked -/
def fldX (xs : List Str) (f : Str) : Op1 := fun d s => match d with
  | .exn c fs => if c ∈ xs then (match fs.lookup f with
    | some v => .ok v s
    | none => .bad) else .bad
  | _ => fld f d s
def XfOk (K : PySem.W.Frag) (xs : List Str) (f : Str) : Prop := ∀ c ∈ xs, XfC K (He.ga K c) ∧ PySem.W.findIn K (.ref (He.ga K c)) f = some none
theorem exn_at {P : Program} {w : World} {H : Hp} {h : Heap} {a C : Addr} {d : Option Addr} (hok : HOk P w H h) (e : H a = some (ExH a C d)) : ∃ (oe : Obj) (vs : Array Value), h.get? a = some oe ∧ Zc (.ref C) d oe ∧ oe.data = .fields vs := by
  have x : ObjOk P w H h a (.ext fun h => ∃ (oe : Obj) (vs : Array Value), h.get? a = some oe ∧ Zc (.ref C) d oe ∧ oe.data = .fields vs) := hok a _ e
  exact x.1
section
variable {X : Cx} {cm : Str → Option Addr} {W : WX} {e : Expr} {ma : M D} {pos : Pos}
theorem qe_fldX {f : Str} {xs : List Str} (hx : XfOk X.K xs f) (hf : FldOk X.K cm f) (he : Pe X cm W e ma) (hb : attributeBase e f X.env (eval e X.env) = eval e X.env := by rfl) : Pe X cm W (.Attribute e f pos) (mUn (fldX xs f) ma) := by
  refine ⟨fun pins s σ H Q I ⟨F, ι, env, st, w, r, q⟩ => ?_⟩
  refine attr_of hb (thn (he.run pins s σ H (fun v H1 => ∃ F1 ι1 d s1, Wd X.K cm F1 ι1 s1 H1 ∧ Rep X.K cm F1 ι1 d v ∧ PostG X.K cm (Rep X.K cm) W F1 ι1 σ (fldX xs f d s1) Q) I ⟨F, ι, env, st, w, r, (PostG.split q).imp fun v H1 ⟨F1, ι1, d, s1, le, ge, w1, rd, q1⟩ => ⟨F1, ι1, d, s1, w1, rd, q1⟩⟩) fun u s1 hh => ?_)
  obtain ⟨x, H1, I1, rx, F1, ι1, d, st1, w1, rd, q1⟩ := hh
  cases rd with
  | @exn a dx c gs fs h1 h2 h3 =>
    unfold fldX at q1
    dsimp only at q1
    by_cases hc : c ∈ xs
    · rw [if_pos hc] at q1
      cases el : fs.lookup f with
      | none => rw [el] at q1; exact q1.elim
      | some v =>
        rw [el] at q1
        obtain ⟨vv, ev, rv⟩ := h3.lookup el
        obtain ⟨T, hno⟩ := hx c hc
        obtain rfl : u = Value.ref a := rx
        obtain ⟨oe, vs, ha, hz, hd⟩ := exn_at I1.hok (w1.sub _ _ h1)
        have hxd : ObjOk X.prog X.w H1 s1.heap dx (.xd gs) := I1.hok dx _ (w1.sub _ _ h2)
        obtain ⟨mA, hns, hr⟩ := hxd
        obtain ⟨od, ho, hl⟩ := lookIn_ns hns
        obtain ⟨u, hu, ru⟩ := RelO.some_of (v := vv) (o := mA f) (by rw [← ev]; exact hr f)
        have J : PySem.W.InstAt s1.heap a oe (He.ga X.K c) (some od) := ⟨ha, hz.1, by unfold PySem.W.notCls; rw [hd] <;> rfl, by rw [hz.2]; exact ho⟩
        exact HandSPX.exc_get I1.kIn J T.ga T.gg T.exC (PySem.W.findObj_own T.hdC hno rfl (by rw [hl, hu])) (handed_of ru) ⟨vv, H1, I1.tok _, ru, q1 F1 ι1 H1 _ .refl .refl w1 rv⟩
    · rw [if_neg hc] at q1; exact q1.elim
  | @exn0 a c h1 =>
    unfold fldX at q1
    dsimp only at q1
    by_cases hc : c ∈ xs
    · rw [if_pos hc] at q1; exact q1.elim
    · rw [if_neg hc] at q1; exact q1.elim
  | @ins a C dx c gs fs h1 h2 h3 =>
    have q2 : PostG X.K cm (Rep X.K cm) W F1 ι1 σ (fld f (.ins c fs) st1) Q := q1
    unfold fld at q2
    cases el : fs.lookup f with
    | none => simp only [el] at q2; exact q2.elim
    | some d =>
      simp only [el] at q2
      obtain ⟨v, ev, rv⟩ := h3.lookup el
      obtain rfl : u = Value.ref a := rx
      exact getattr_ok I1 (w1.sub _ _ h2) (hf _ _ h1).1 (hf _ _ h1).2 ev fun u' s2 I2 ru => ⟨v, H1, I2, ru, q2 F1 ι1 H1 _ .refl .refl w1 rv⟩
  | @ref n a h1 =>
    have q2 : PostG X.K cm (Rep X.K cm) W F1 ι1 σ (fld f (.ref n) st1) Q := q1
    unfold fld at q2
    cases es : st1[n]? with
    | none => simp only [es] at q2; exact q2.elim
    | some o =>
      cases o with
      | lst _ => simp only [es] at q2; exact q2.elim
      | ins c fs =>
        simp only [es] at q2
        obtain ⟨C, dx, gs, e1, e2, h3⟩ := w1.cur n _ a es h1
        cases el : fs.lookup f with
        | none => simp only [el] at q2; exact q2.elim
        | some d =>
          simp only [el] at q2
          obtain ⟨v, ev, rv⟩ := h3.lookup el
          obtain rfl : u = Value.ref a := rx
          exact getattr_ok I1 e1 (hf _ _ e2).1 (hf _ _ e2).2 ev fun u' s2 I2 ru => ⟨v, H1, I2, ru, q2 F1 ι1 H1 _ .refl .refl w1 rv⟩
  | _ => exact q1.elim
end
/-! isinstance -/
def D.hc? : D → Option HCl
  | .ty n => some (.ty n)
  | .xcl c => some (.xc c)
  | _ => none
def hcL : List D → Option (List HCl)
  | [] => some []
  | c :: cs => match c.hc?, hcL cs with
    | some u, some us => some (u :: us)
    | _, _ => none
def anyX (xi : Str → HCl → Option Bool) (c : Str) : List HCl → Option Bool
  | [] => some false
  | u :: us => match xi c u with
    | some true => some true
    | some false => anyX xi c us
    | none => none
def isiX (sub : Subs) (ex : List Str) (xi : Str → HCl → Option Bool) : OpL := fun ds s => match ds with
  | [.exn c _, y] => if c ∈ ex then (match y.hc? with
    | some h => (match xi c h with
      | some b => .ok (.bl b) s
      | none => .bad)
    | none => (match y with
      | .tup ys => (match hcL ys with
        | some hs => (match anyX xi c hs with
          | some b => .ok (.bl b) s
          | none => .bad)
        | none => .bad)
      | _ => .bad)) else .bad
  | _ => isiO sub ds s
def XiOk (K : PySem.W.Frag) (xi : Str → HCl → Option Bool) : Prop := ∀ c h b, xi c h = some b → PySem.W.kitOne K (.ref (He.ga K c)) (h.v K) = some b
theorem hc_of {K : PySem.W.Frag} {cm : Str → Option Addr} {F : Hp} {ι : Io} {d : D} {v : V} {u : HCl} (r : Rep K cm F ι d v) (h : d.hc? = some u) : ClsV v (u.v K) := by
  cases r with
  | ty n => cases h; exact .ty n
  | xcl c => cases h; exact .own _
  | _ => cases h
theorem hcL_of {K : PySem.W.Frag} {cm : Str → Option Addr} {F : Hp} {ι : Io} : ∀ {cs : List D} {vs : List V} {ts : List HCl}, RepL K cm F ι cs vs → hcL cs = some ts → Paired ClsV vs (ts.map (HCl.v K))
  | _, _, _, .nil, h => by cases h; exact .nil
  | _, _, ts, .cons (d := c) (ds := cs) r rs, h => by
    unfold hcL at h
    cases e : c.hc? with
    | none => simp only [e] at h; cases h
    | some u =>
      cases e2 : hcL cs with
      | none => simp only [e, e2] at h; cases h
      | some us =>
        simp only [e, e2] at h
        cases h
        exact .cons (hc_of r e) (hcL_of rs e2)
theorem anyX_ok {K : PySem.W.Frag} {xi : Str → HCl → Option Bool} (hS : XiOk K xi) {c : Str} : ∀ {ts : List HCl} {b : Bool}, anyX xi c ts = some b → PySem.W.kitAny K (.ref (He.ga K c)) (ts.map (HCl.v K)) = some b
  | [], _, h => by cases h; rfl
  | u :: ts, b, h => by
    unfold anyX at h
    cases e2 : xi c u with
    | none => rw [e2] at h; cases h
    | some k =>
      rw [e2] at h
      have h3 := hS _ _ _ e2
      cases k with
      | true =>
        obtain rfl : true = b := Option.some.inj h
        exact kitAny_cons h3 (fun z => nomatch z) fun _ => rfl
      | false => exact kitAny_cons h3 (fun _ => anyX_ok hS h) fun z => nomatch z
section
variable {X : Cx} {cm : Str → Option Addr} {W : WX}
theorem c_isiX {sub : Subs} {ex : List Str} {xi : Str → HCl → Option Bool} (hI : ∀ c C, cm c = some C → InsOk X.K C) (hS : SubOk X.K cm sub) (hE : ∀ c ∈ ex, ExcC X.K (He.ga X.K c)) (hX : XiOk X.K xi) : CallR X (.builtin "isinstance") (rC1 X.K cm W (isiX sub ex xi)) := by
  intro pins s σ H xs us Q I r h
  obtain ⟨F, ι, σ', ds, st, w, rd, q⟩ := h
  have plain : PostG X.K cm (Rep X.K cm) W F ι σ' (isiO sub ds st) Q → _ := fun q => c_isi hI hS pins s σ H xs us Q I r ⟨F, ι, σ', ds, st, w, rd, q⟩
  have main : ∀ {a : Addr} {d : Option Addr} {c : Str} {fs : List (Str × D)} {y : D} {vy : V}, ds = [.exn c fs, y] → xs = [.ref a, vy] → F a = some (ExH a (He.ga X.K c) d) → (d = none ∨ ∃ dx o, d = some dx ∧ s.heap.get? dx = some o) → Rep X.K cm F ι y vy →
      wpAny (model X.prog X.w) X.A (call (.builtin "isinstance") us) (EP X pins σ Q) X.xe s := by
    intro a d c fs y vy e1 e2 h1 hd ry
    subst e1 e2
    unfold isiX at q
    dsimp only at q
    by_cases hc : c ∈ ex
    · rw [if_pos hc] at q
      have T := hE c hc
      obtain ⟨u1, u2, rfl, r1, r2⟩ := vals2 r
      cases (show u1 = Value.ref a from r1)
      obtain ⟨oe, vs, ha, hz, hdd⟩ := exn_at I.hok (w.sub _ _ h1)
      have hcl : (PySem.W.clsIn X.K (He.ga X.K c)).isSome = true := by obtain ⟨cd, h, _⟩ := PySem.W.any_some T.hd; rw [h]; rfl
      obtain ⟨od, J⟩ : ∃ od, PySem.W.InstAt s.heap a oe (He.ga X.K c) od := by
        have hn : PySem.W.notCls oe = true := by unfold PySem.W.notCls; rw [hdd] <;> rfl
        rcases hd with rfl | ⟨dx, o, rfl, ho⟩
        · exact ⟨none, ha, hz.1, hn, by rw [hz.2]; trivial⟩
        · exact ⟨some o, ha, hz.1, hn, by rw [hz.2]; exact ho⟩
      have Z := PySem.W.kitx_exc (x := a) (od := od) (ox := oe) hcl T.hg T.hk T.hs T.ha T.hn T.ht T.hm
      cases e1 : y.hc? with
      | some hcy =>
        simp only [e1] at q
        cases e2 : xi c hcy with
        | none => simp only [e2] at q; exact q.elim
        | some b =>
          simp only [e2] at q
          have ec := (hc_of ry e1).eq r2
          subst ec
          exact PySem.W.kia_one Z I.kIn J (hX _ _ _ e2) (fun z => nomatch z) fun tk => ⟨.bl b, H, I.tok tk, rfl, q F ι H _ .refl .refl w (.bl _)⟩
      | none =>
        simp only [e1] at q
        cases ry with
        | tup hq hl =>
          dsimp only at q
          split at q
          · rename_i hs e4
            split at q
            · rename_i b e5
              cases (show u2 = Value.ref _ from r2)
              obtain ⟨its, rv, ⟨o, h1, h2, n, h3⟩, _⟩ := I.tuple (Le.t w.sub hq)
              have e3 := ClsV.all (hcL_of hl e4) rv
              subst e3
              obtain ⟨oc, od2, dt, sl⟩ := o
              simp only at h2 h3
              subst h2 h3
              exact PySem.W.kia_tup Z I.kIn J h1 (anyX_ok hX e5) (fun z => nomatch z) fun tk => ⟨.bl b, H, I.tok tk, rfl, q F ι H _ .refl .refl w (.bl _)⟩
            · exact q.elim
          · exact q.elim
        | _ => exact q.elim
    · rw [if_neg hc] at q; exact q.elim
  cases rd with
  | nil => exact q.elim
  | @cons d1 v1 ds1 vs1 ra t =>
    cases t with
    | nil => cases ra <;> exact q.elim
    | @cons d2 v2 ds2 vs2 rb t =>
      cases t with
      | cons _ _ => cases ra <;> exact q.elim
      | nil =>
        cases ra with
        | @exn0 a c h1 => exact main rfl rfl h1 (.inl rfl) rb
        | @exn a dx c gs fs h1 h2 h3 =>
          obtain ⟨mA, ⟨o, es, ep, ho, _⟩, _⟩ := (show ObjOk X.prog X.w H s.heap dx (.xd gs) from I.hok dx _ (w.sub _ _ h2))
          exact main rfl rfl h1 (.inr ⟨dx, o, rfl, ho⟩) rb
        | _ => exact plain q
end
end PM
end

/-! PmP -/
section
set_option Elab.async false
set_option linter.all false
set_option maxRecDepth 100000
set_option maxHeartbeats 4000000
/-! ### exceptions: what the top must say -/
namespace PM
open PySem L2 PySem.Spec PyProof.Rows
def oexB (c : Str) (K : PySem.W.Frag) : Bool := (match K.lookup (He.ga K c) with
  | some ⟨.type "type", _, .cls cd, sl⟩ => (match cd.mro, sl.toList with
    | .ref C' :: bm, [_, _, _, _, some (.builtin n), _] => C' == He.ga K c && n == "ValueError.__new__" && !cd.hasDel && (cd.hasDict && HandSPX.refsVE bm)
    | _, _ => false)
  | _ => false) && (decide (PySem.W.findIn K (.ref (He.ga K c)) "__setattr__" = some (some (.builtin "object.__setattr__"))) && (decide (PySem.W.subIn K (.ref (He.ga K c)) (.type "BaseException") = some true) && (decide (PySem.W.typeIn K (.ref (He.ga K c)) = some (.type "type")) && PySem.W.keepIn K (.ref (He.ga K c)))))
theorem oexB_ok {c : Str} {K : PySem.W.Frag} (h : oexB c K = true) : OexC K (He.ga K c) := by
  obtain ⟨q, h⟩ := Bool.and_eq_true_iff.mp h
  simp only [Bool.and_eq_true, decide_eq_true_eq] at h
  obtain ⟨h1, h2, h3, h4⟩ := h
  refine ⟨?_, h1, h2, h3, h4⟩
  split at q
  · rename_i dd cd sl ho
    split at q
    · rename_i C' bm k0 k1 k2 k3 n k5 hm hs
      simp only [Bool.and_eq_true, beq_iff_eq, Bool.not_eq_true'] at q
      obtain ⟨⟨⟨rfl, rfl⟩, hdel⟩, hd, ht⟩ := q
      obtain ⟨nm, bs, mro, ns, qn, hdc, sn, sub, ab, col, del⟩ := cd
      dsimp only at hm hdel hd
      subst hm hdel hd
      have hsl : sl = #[k0, k1, k2, k3, some (.builtin "ValueError.__new__"), k5] := by
        obtain ⟨l⟩ := sl
        simp only at hs
        rw [hs]
      subst hsl
      exact ⟨nm, qn, ns, bs, bm, sn, sub, ab, col, dd, k0, k1, k2, k3, k5, ho, ht⟩
    · cases q
  · cases q
def xfsB (xs fs : List Str) (K : PySem.W.Frag) : Bool := xs.all fun c => xfB K (He.ga K c) && fs.all fun f => decide (PySem.W.findIn K (.ref (He.ga K c)) f = some none)
theorem xfsB_ok {xs fs : List Str} {f : Str} {K : PySem.W.Frag} (h : xfsB xs fs K = true) (hf : f ∈ fs) : XfOk K xs f := fun c hc => by
  obtain ⟨h1, h2⟩ := Bool.and_eq_true_iff.mp (List.all_eq_true.mp h c hc)
  exact ⟨xfB_ok h1, of_decide_eq_true (List.all_eq_true.mp h2 f hf)⟩
def nofB (c : Str) (fs : List Str) (K : PySem.W.Frag) : Bool := fs.all fun f => decide (PySem.W.findIn K (.ref (He.ga K c)) f = some none)
theorem xcD_of {P : Program} {w : World} {K : PySem.W.Frag} {mg : Str → Option Value} {base : Heap} {c : Str} {fs ps : List Str} {fd : FuncData} (h1 : oexB c K = true) (h2 : nofB c fs K = true) (h3 : (He.Fa.meth c "__init__").ok K = true) (hm : mg c = some (.ref (He.ga K c)))
    (F : FnOk P w K mg base (L2.CX P w) 1 (He.ma K (He.ga K c) "__init__") fd ps (spI K fs)) (hb : Binds K fd ps []) : XcD P w K mg base c fs := by
  obtain ⟨c1, c2⟩ := Bool.and_eq_true_iff.mp h3
  obtain ⟨c2, c3⟩ := Bool.and_eq_true_iff.mp c2
  exact ⟨oexB_ok h1, hm, ⟨_, fd, ps, He.eqO_ok c1, beq_iff_eq.mp c2, F, hb⟩, fun f hf => of_decide_eq_true (List.all_eq_true.mp h2 f hf)⟩
abbrev SubX := List ((Str × HCl) × Bool)
def subX (l : SubX) : Str → HCl → Option Bool := fun c h => l.lookup (c, h)
theorem mem_look {α β : Type} [BEq α] [LawfulBEq α] {l : List (α × β)} {a : α} {b : β} (h : l.lookup a = some b) : (a, b) ∈ l := by
  induction l with
  | nil => cases h
  | cons p l ih =>
    obtain ⟨x, y⟩ := p
    rw [List.lookup_cons] at h
    cases e : a == x with
    | true =>
      rw [e] at h
      cases h
      rw [beq_iff_eq.mp e]
      exact List.mem_cons_self ..
    | false => rw [e] at h; exact List.mem_cons_of_mem _ (ih h)
def xmB (l : SubX) (K : PySem.W.Frag) : Bool := l.all fun q => decide (PySem.W.exmOne K (.ref (He.ga K q.1.1)) (q.1.2.v K) = some q.2)
theorem xmB_ok {l : SubX} {K : PySem.W.Frag} (h : xmB l K = true) : XmOk K (subX l) := fun c y b e => of_decide_eq_true (List.all_eq_true.mp h _ (mem_look e))
def xiB (l : SubX) (K : PySem.W.Frag) : Bool := l.all fun q => decide (PySem.W.kitOne K (.ref (He.ga K q.1.1)) (q.1.2.v K) = some q.2)
theorem xiB_ok {l : SubX} {K : PySem.W.Frag} (h : xiB l K = true) : XiOk K (subX l) := fun c y b e => of_decide_eq_true (List.all_eq_true.mp h _ (mem_look e))
def excB (xs : List Str) (K : PySem.W.Frag) : Bool := xs.all fun c => decide (PySem.W.findIn K (.ref (He.ga K c)) "__getattribute__" = some (some (.builtin "BaseException.__getattribute__"))) && (decide (PySem.W.findIn K (.ref (He.ga K c)) "__getattr__" = some none) && (decide (PySem.W.subIn K (.ref (He.ga K c)) (.type "BaseException") = some true) &&
  (PySem.W.hasDictIn K (He.ga K c) && (decide (PySem.W.findIn K (.ref (He.ga K c)) "__class__" = some (some (.builtin "object.__class__"))) && (decide (PySem.W.specialIn K (.builtin "object.__class__") "__get__" = some (some (.builtin "getset_descriptor.__get__"))) && (decide (PySem.W.takesIn K (.builtin "object.__class__") = some true) && decide (PySem.W.mroIn K (He.ga K c) (.type "object") = some true)))))))
theorem excB_ok {xs : List Str} {K : PySem.W.Frag} (h : excB xs K = true) : ∀ c ∈ xs, ExcC K (He.ga K c) := fun c hc => by
  have q := List.all_eq_true.mp h c hc
  simp only [Bool.and_eq_true, decide_eq_true_eq] at q
  exact ⟨q.1, q.2.1, q.2.2.1, q.2.2.2.1, q.2.2.2.2.1, q.2.2.2.2.2.1, q.2.2.2.2.2.2.1, q.2.2.2.2.2.2.2⟩
theorem gc_xcl {K : PySem.W.Frag} {mg : Str → Option Value} {cm : Str → Option Addr} {x : Str} (h : mg x = some (.ref (He.ga K x))) : GC K mg cm x (.xcl x) := ⟨.ref (He.ga K x), .ref (He.ga K x), h, rfl, fun F ι => .xcl x⟩
section
variable {X : Cx} {cm : Str → Option Addr} {W : WX}
theorem qss_never {sts : List Stmt} : Pss X cm W sts mBad := ⟨fun _ _ σ H E I ⟨F, ι, env, s, w, r, q⟩ => q.elim⟩
theorem nmX {x : Str} (h : X.mg x = some (.ref (He.ga X.K x))) (hg : Gl X x := by rfl) (hd : (x == ("__debug__" : Str)) = false := by decide) : Names X x ((HCl.xc x).v X.K) := ⟨hg, hd, .inl h⟩
theorem nmB {x : Str} {n : String} (h : X.mg x = none) (hv : bootBuiltins x = some (.type n)) (hg : Gl X x := by rfl) (hd : (x == ("__debug__" : Str)) = false := by decide) (hn : x ≠ "__name__" := by decide) : Names X x ((HCl.ty n).v X.K) := ⟨hg, hd, .inr ⟨h, hv, hn⟩⟩
theorem tst_cons {q : Str × Pos × HCl} {l : List (Str × Pos × HCl)} (h : Names X q.1 (q.2.2.v X.K)) (t : ∀ y ∈ l, Names X y.1 (y.2.2.v X.K)) : ∀ y ∈ q :: l, Names X y.1 (y.2.2.v X.K) := fun y hy => by
  rcases List.mem_cons.mp hy with rfl | hy
  · exact h
  · exact t y hy
theorem tst_nil : ∀ y ∈ ([] : List (Str × Pos × HCl)), Names X y.1 (y.2.2.v X.K) := fun _ h => by cases h
end
end PM
end

/-! K02a -/
section
set_option Elab.async false
set_option linter.all false
set_option maxRecDepth 100000
set_option maxHeartbeats 4000000
namespace K02
open PySem L2 PM
def top (i : Nat) : Stmt := PySem.Challenge.pw_plainford_k02_dates_that_are_none.main.body.getD i (.Pass ⟨0, 0, 0, 0⟩)
abbrev clss : List Str := ["Day"]
abbrev subT : SubT := [((.b "int", .o "Day"), false), ((.b "tuple", .o "Day"), false), ((.o "Day", .o "Day"), true), ((.o "Day", .b "tuple"), false), ((.b "tuple", .b "tuple"), true)]
abbrev sub : Subs := subF subT
abbrev exs : List Str := ["NoDay"]
abbrev xT : SubX := [(("NoDay", (.xc "NoDay")), true), (("NoDay", (.xc "NoTerm")), false), (("NoDay", (.xc "NoName")), false), (("NoDay", (.xc "NoKind")), false), (("NoDay", (.xc "NoPath")), false), (("NoDay", (.xc "NoTable")), false), (("NoDay", (.xc "NoQuestion")), false), (("NoDay", (.xc "Fault")), false), (("NoDay", (.xc "NoText")), false), (("NoDay", (.xc "NoMoment")), false), (("NoDay", (.ty "ValueError")), true), (("NoDay", (.ty "LookupError")), false), (("NoDay", (.ty "ArithmeticError")), false), (("NoDay", (.ty "ZeroDivisionError")), false)]
abbrev d_LENGTHS : D := .tup [.int (31), .int (28), .int (31), .int (30), .int (31), .int (30), .int (31), .int (31), .int (30), .int (31), .int (30), .int (31)]
abbrev s_Day__init__ : Stmt := (inClass (top 13) 0)
def W_Day__init__ : MS := (mSetFld "number" (mVar 1) (mVar 0))
def M_Day__init__ : FM := fnM 0 W_Day__init__
theorem sc_Day__init__ : FnScope ["self", "number"] ["self", "number"] (defScope s_Day__init__) := ⟨rfl, rfl, rfl, by decide +kernel, rfl, by decide +kernel, by decide +kernel⟩
theorem ok_Day__init__ {P : Program} {w : World} {K : PySem.W.Frag} {mg : Str → Option Value} {base : Heap} {a : Addr} {fd : FuncData} (FD : FunD K "__init__" "Day.__init__" (defArgs s_Day__init__) (defBody s_Day__init__) (defScope s_Day__init__) [] [] a fd) (f_number : FldOk K (clsM clss K) "number") : FnOk P w K mg base (L2.CX P w) 1 a fd ["self", "number"] (spM K (clsM clss K) 2 M_Day__init__) := by
  refine fnDm FD sc_Day__init__ rfl fun cdv A outer s H E hr => ?_
  have scN := sc_Day__init__.nd
  have tkF : Takes (cxOf (L2.CX P w) P w K mg base ["self", "number"] "Day.__init__" (defScope s_Day__init__) a cdv A outer s H E) (fun c d _ H => E c d H) := takes_of rfl rfl rfl rfl
  have paF : PassesOwn (model P w) (cxOf (L2.CX P w) P w K mg base ["self", "number"] "Day.__init__" (defScope s_Day__init__) a cdv A outer s H E).A (cxOf (L2.CX P w) P w K mg base ["self", "number"] "Day.__init__" (defScope s_Day__init__) a cdv A outer s H E).env (cxOf (L2.CX P w) P w K mg base ["self", "number"] "Day.__init__" (defScope s_Day__init__) a cdv A outer s H E).xe := passes_of (X := (cxOf (L2.CX P w) P w K mg base ["self", "number"] "Day.__init__" (defScope s_Day__init__) a cdv A outer s H E)) rfl
  exact (qss_one (qs_fld f_number (qe_var 0 (pv 0)) (qe_var 1 (pv 1))))
abbrev s_Day__eq__ : Stmt := (inClass (top 13) 1)
def W_Day__eq__ : MS := (mRet (mAndV (mCall (isiX sub exs (subX xT)) (mCons (mVar 1) (mCons (mC (.cls "Day")) mNil))) (mOp eqO (mUn (fld "number") (mVar 0)) (mUn (fld "number") (mVar 1)))))
def M_Day__eq__ : FM := fnM 0 W_Day__eq__
theorem sc_Day__eq__ : FnScope ["self", "other"] ["self", "other"] (defScope s_Day__eq__) := ⟨rfl, rfl, rfl, by decide +kernel, rfl, by decide +kernel, by decide +kernel⟩
theorem ok_Day__eq__ {P : Program} {w : World} {K : PySem.W.Frag} {mg : Str → Option Value} {base : Heap} {a : Addr} {fd : FuncData} (FD : FunD K "__eq__" "Day.__eq__" (defArgs s_Day__eq__) (defBody s_Day__eq__) (defScope s_Day__eq__) [] [] a fd) (b_isinstance : mg "isinstance" = none) (c_Day : GC K mg (clsM clss K) "Day" (.cls "Day")) (excOk : ∀ c ∈ exs, ExcC K (He.ga K c)) (xiOk : XiOk K (subX xT)) (f_number : FldOk K (clsM clss K) "number") (insOk : ∀ c C, (clsM clss K) c = some C → InsOk K C) (subOk : SubOk K (clsM clss K) sub) : FnOk P w K mg base (L2.CX P w) 1 a fd ["self", "other"] (spM K (clsM clss K) 2 M_Day__eq__) := by
  refine fnDm FD sc_Day__eq__ rfl fun cdv A outer s H E hr => ?_
  have scN := sc_Day__eq__.nd
  have tkF : Takes (cxOf (L2.CX P w) P w K mg base ["self", "other"] "Day.__eq__" (defScope s_Day__eq__) a cdv A outer s H E) (fun c d _ H => E c d H) := takes_of rfl rfl rfl rfl
  have paF : PassesOwn (model P w) (cxOf (L2.CX P w) P w K mg base ["self", "other"] "Day.__eq__" (defScope s_Day__eq__) a cdv A outer s H E).A (cxOf (L2.CX P w) P w K mg base ["self", "other"] "Day.__eq__" (defScope s_Day__eq__) a cdv A outer s H E).env (cxOf (L2.CX P w) P w K mg base ["self", "other"] "Day.__eq__" (defScope s_Day__eq__) a cdv A outer s H E).xe := passes_of (X := (cxOf (L2.CX P w) P w K mg base ["self", "other"] "Day.__eq__" (defScope s_Day__eq__) a cdv A outer s H E)) rfl
  exact (qss_one (qs_ret (qe_and (qe_callB (c_isiX insOk subOk excOk xiOk) b_isinstance (by decide +kernel) (qa_cons (qe_var 1 (pv 1)) (qa_cons (qe_glob c_Day) qa_nil))) (qe_one (qe_cmp (o_eq hr.units) (qe_fld f_number (qe_var 0 (pv 0))) (qe_fld f_number (qe_var 1 (pv 1))))))))
abbrev s_is_leap : Stmt := (top 14)
def W_is_leap : MS := (mRet (mAndV (mOp eqO (mOp modO (mVar 0) (mC (.int 4))) (mC (.int 0))) (mOrV (mOp neO (mOp modO (mVar 0) (mC (.int 100))) (mC (.int 0))) (mOp eqO (mOp modO (mVar 0) (mC (.int 400))) (mC (.int 0))))))
def M_is_leap : FM := fnM 0 W_is_leap
theorem sc_is_leap : FnScope ["year"] ["year"] (defScope s_is_leap) := ⟨rfl, rfl, rfl, by decide +kernel, rfl, by decide +kernel, by decide +kernel⟩
theorem ok_is_leap {P : Program} {w : World} {K : PySem.W.Frag} {mg : Str → Option Value} {base : Heap} {a : Addr} {fd : FuncData} (FD : FunD K "is_leap" "is_leap" (defArgs s_is_leap) (defBody s_is_leap) (defScope s_is_leap) [] [] a fd) (hm : mg "is_leap" = some (.ref a)) : FnD P w K mg base (clsM clss K) "is_leap" s_is_leap ["year"] 1 M_is_leap := by
  refine fnD FD hm sc_is_leap rfl fun cdv A outer s H E hr => ?_
  have scN := sc_is_leap.nd
  have tkF : Takes (cxOf (L2.CX P w) P w K mg base ["year"] "is_leap" (defScope s_is_leap) a cdv A outer s H E) (fun c d _ H => E c d H) := takes_of rfl rfl rfl rfl
  have paF : PassesOwn (model P w) (cxOf (L2.CX P w) P w K mg base ["year"] "is_leap" (defScope s_is_leap) a cdv A outer s H E).A (cxOf (L2.CX P w) P w K mg base ["year"] "is_leap" (defScope s_is_leap) a cdv A outer s H E).env (cxOf (L2.CX P w) P w K mg base ["year"] "is_leap" (defScope s_is_leap) a cdv A outer s H E).xe := passes_of (X := (cxOf (L2.CX P w) P w K mg base ["year"] "is_leap" (defScope s_is_leap) a cdv A outer s H E)) rfl
  exact (qss_one (qs_ret (qe_and (qe_cmp (o_eq hr.units) (qe_op o_mod (qe_var 0 (pv 0)) qe_int) qe_int) (qe_one (qe_or (qe_cmp (o_ne hr.units) (qe_op o_mod (qe_var 0 (pv 0)) qe_int) qe_int) (qe_one (qe_cmp (o_eq hr.units) (qe_op o_mod (qe_var 0 (pv 0)) qe_int) qe_int)))))))
abbrev s_last_of : Stmt := (top 15)
def W_last_of : MS := (mRet (mOp (addO false) (mOp ixO (mC d_LENGTHS) (mOp subO (mVar 1) (mC (.int 1)))) (mCall intO (mCons (mAndV (mOp eqO (mVar 1) (mC (.int 2))) (mCall M_is_leap (mCons (mVar 0) mNil))) mNil))))
def M_last_of : FM := fnM 0 W_last_of
theorem sc_last_of : FnScope ["year", "month"] ["year", "month"] (defScope s_last_of) := ⟨rfl, rfl, rfl, by decide +kernel, rfl, by decide +kernel, by decide +kernel⟩
theorem ok_last_of {P : Program} {w : World} {K : PySem.W.Frag} {mg : Str → Option Value} {base : Heap} {a : Addr} {fd : FuncData} (FD : FunD K "last_of" "last_of" (defArgs s_last_of) (defBody s_last_of) (defScope s_last_of) [] [] a fd) (hm : mg "last_of" = some (.ref a)) (b_int : mg "int" = none) (c_LENGTHS : GC K mg (clsM clss K) "LENGTHS" d_LENGTHS) (g_is_leap : FnD P w K mg base (clsM clss K) "is_leap" s_is_leap ["year"] 1 M_is_leap) : FnD P w K mg base (clsM clss K) "last_of" s_last_of ["year", "month"] 2 M_last_of := by
  refine fnD FD hm sc_last_of rfl fun cdv A outer s H E hr => ?_
  have scN := sc_last_of.nd
  have tkF : Takes (cxOf (L2.CX P w) P w K mg base ["year", "month"] "last_of" (defScope s_last_of) a cdv A outer s H E) (fun c d _ H => E c d H) := takes_of rfl rfl rfl rfl
  have paF : PassesOwn (model P w) (cxOf (L2.CX P w) P w K mg base ["year", "month"] "last_of" (defScope s_last_of) a cdv A outer s H E).A (cxOf (L2.CX P w) P w K mg base ["year", "month"] "last_of" (defScope s_last_of) a cdv A outer s H E).env (cxOf (L2.CX P w) P w K mg base ["year", "month"] "last_of" (defScope s_last_of) a cdv A outer s H E).xe := passes_of (X := (cxOf (L2.CX P w) P w K mg base ["year", "month"] "last_of" (defScope s_last_of) a cdv A outer s H E)) rfl
  exact (qss_one (qs_ret (qe_op (o_add false) (qe_ix o_ix (qe_glob c_LENGTHS) (qe_op o_sub (qe_var 1 (pv 1)) qe_int)) (qe_callTy c_int b_int (by decide +kernel) (qa_cons (qe_and (qe_cmp (o_eq hr.units) (qe_var 1 (pv 1)) qe_int) (qe_one (qe_call g_is_leap (hr.mono (by decide)) tkF (qa_cons (qe_var 0 (pv 0)) qa_nil) (fun _ _ _ _ _ _ us hl => match us, hl with | [_], _ => rfl) (len_cons len_nil)))) qa_nil)))))
abbrev s_NoDay__init__ : Stmt := (inClass (top 1) 0)
theorem sc_NoDay__init__ : FnScope ["self", "parts"] ["self", "parts"] (defScope s_NoDay__init__) := ⟨rfl, rfl, rfl, by decide +kernel, rfl, by decide +kernel, by decide +kernel⟩
theorem ok_NoDay__init__ {P : Program} {w : World} {K : PySem.W.Frag} {mg : Str → Option Value} {base : Heap} {a : Addr} {fd : FuncData} (FD : FunD K "__init__" "NoDay.__init__" (defArgs s_NoDay__init__) (defBody s_NoDay__init__) (defScope s_NoDay__init__) [] [] a fd) : FnOk P w K mg base (L2.CX P w) 1 a fd ["self", "parts"] (spI K ["parts"]) := fnI1 FD sc_NoDay__init__ rfl
abbrev s_day_of : Stmt := (top 16)
def W_day_of : MS := (mSeq (mIfS (mOr (mNot (mTruB (mChain leO leO (mC (.int 1)) (mVar 1) (mC (.int 12))))) (mNot (mTruB (mChain leO leO (mC (.int 1)) (mVar 2) (mCall M_last_of (mCons (mVar 0) (mCons (mVar 1) mNil))))))) (mRaise "NoDay" ["parts"] (mCons (mTup (mCons (mVar 0) (mCons (mVar 1) (mCons (mVar 2) mNil)))) mNil)) mNext) (mSeq (mSet 3 (mOp subO (mVar 0) (mCall intO (mCons (mOp ltO (mVar 1) (mC (.int 3))) mNil)))) (mSeq (mSet 4 (mOp subO (mOp (addO false) (mOp fdivO (mOp (addO false) (mOp mulO (mC (.int 153)) (mOp modO (mOp (addO false) (mVar 1) (mC (.int 9))) (mC (.int 12)))) (mC (.int 2))) (mC (.int 5))) (mVar 2)) (mC (.int 1)))) (mRet (mMake "Day" M_Day__init__ (mCons (mOp (addO false) (mOp (addO false) (mOp subO (mOp (addO false) (mOp mulO (mC (.int 365)) (mVar 3)) (mOp fdivO (mVar 3) (mC (.int 4)))) (mOp fdivO (mVar 3) (mC (.int 100)))) (mOp fdivO (mVar 3) (mC (.int 400)))) (mVar 4)) mNil))))))
def M_day_of : FM := fnM 2 W_day_of
theorem sc_day_of : FnScope ["year", "month", "day", "since", "ahead"] ["year", "month", "day"] (defScope s_day_of) := ⟨rfl, rfl, rfl, by decide +kernel, rfl, by decide +kernel, by decide +kernel⟩
theorem ok_day_of {P : Program} {w : World} {K : PySem.W.Frag} {mg : Str → Option Value} {base : Heap} {a : Addr} {fd : FuncData} (FD : FunD K "day_of" "day_of" (defArgs s_day_of) (defBody s_day_of) (defScope s_day_of) [] [] a fd) (hm : mg "day_of" = some (.ref a)) (b_int : mg "int" = none) (r_NoDay : XcD P w K mg base "NoDay" ["parts"]) (g_last_of : FnD P w K mg base (clsM clss K) "last_of" s_last_of ["year", "month"] 2 M_last_of) (k_Day : ClsD P w K mg base (clsM clss K) "Day" "Day.__init__" s_Day__init__ ["self", "number"] 1 M_Day__init__) : FnD P w K mg base (clsM clss K) "day_of" s_day_of ["year", "month", "day"] 3 M_day_of := by
  refine fnD FD hm sc_day_of rfl fun cdv A outer s H E hr => ?_
  have scN := sc_day_of.nd
  have tkF : Takes (cxOf (L2.CX P w) P w K mg base ["year", "month", "day", "since", "ahead"] "day_of" (defScope s_day_of) a cdv A outer s H E) (fun c d _ H => E c d H) := takes_of rfl rfl rfl rfl
  have paF : PassesOwn (model P w) (cxOf (L2.CX P w) P w K mg base ["year", "month", "day", "since", "ahead"] "day_of" (defScope s_day_of) a cdv A outer s H E).A (cxOf (L2.CX P w) P w K mg base ["year", "month", "day", "since", "ahead"] "day_of" (defScope s_day_of) a cdv A outer s H E).env (cxOf (L2.CX P w) P w K mg base ["year", "month", "day", "since", "ahead"] "day_of" (defScope s_day_of) a cdv A outer s H E).xe := passes_of (X := (cxOf (L2.CX P w) P w K mg base ["year", "month", "day", "since", "ahead"] "day_of" (defScope s_day_of) a cdv A outer s H E)) rfl
  exact (qss_cons (qs_if (qt_pw (qw_or (qt_not (qt_chain o_le o_le qe_int (qe_var 1 (pv 1)) qe_int)) (qw_or1 (qt_not (qt_chain o_le o_le qe_int (qe_var 2 (pv 2)) (qe_call g_last_of (hr.mono (by decide)) tkF (qa_cons (qe_var 0 (pv 0)) (qa_cons (qe_var 1 (pv 1)) qa_nil)) (fun _ _ _ _ _ _ us hl => match us, hl with | [_, _], _ => rfl) (len_cons (len_cons len_nil)))))))) (qss_one (qs_raise rfl tkF r_NoDay (hr.mono (by decide)) (qa_cons (qe_tup (qa_cons (qe_var 0 (pv 0)) (qa_cons (qe_var 1 (pv 1)) (qa_cons (qe_var 2 (pv 2)) qa_nil)))) qa_nil))) qss_nil) (qss_cons (qs_set (i := 3) scN (qe_op o_sub (qe_var 0 (pv 0)) (qe_callTy c_int b_int (by decide +kernel) (qa_cons (qe_cmp o_lt (qe_var 1 (pv 1)) qe_int) qa_nil)))) (qss_cons (qs_set (i := 4) scN (qe_op o_sub (qe_op (o_add false) (qe_op o_fdiv (qe_op (o_add false) (qe_op o_mul qe_int (qe_op o_mod (qe_op (o_add false) (qe_var 1 (pv 1)) qe_int) qe_int)) qe_int) qe_int) (qe_var 2 (pv 2))) qe_int)) (qss_one (qs_ret (qe_make k_Day (hr.mono (by decide)) tkF (qa_cons (qe_op (o_add false) (qe_op (o_add false) (qe_op o_sub (qe_op (o_add false) (qe_op o_mul qe_int (qe_var 3 (pv 3))) (qe_op o_fdiv (qe_var 3 (pv 3)) qe_int)) (qe_op o_fdiv (qe_var 3 (pv 3)) qe_int)) (qe_op o_fdiv (qe_var 3 (pv 3)) qe_int)) (qe_var 4 (pv 4))) qa_nil) (fun _ _ _ _ _ _ us hl => match us, hl with | [_, _], _ => rfl) (len_succ (len_cons len_nil))))))))
abbrev s__law_draws : Stmt := (top 18)
def W__law_draws : MS := (mRet (mLst true (mCons (mOp modO (mVar 0) (mOp powO (mOp powO (mOp powO (mC (.int 10)) (mC (.int 60))) (mC (.int 60))) (mC (.int 4)))) (mCons (mC (.int 0)) (mCons (mOp geO (mVar 0) (mOp powO (mC (.int 10)) (mC (.int 18)))) mNil)))))
def M__law_draws : FM := fnM 0 W__law_draws
theorem sc__law_draws : FnScope ["cell"] ["cell"] (defScope s__law_draws) := ⟨rfl, rfl, rfl, by decide +kernel, rfl, by decide +kernel, by decide +kernel⟩
theorem ok__law_draws {P : Program} {w : World} {K : PySem.W.Frag} {mg : Str → Option Value} {base : Heap} {a : Addr} {fd : FuncData} (FD : FunD K "_law_draws" "_law_draws" (defArgs s__law_draws) (defBody s__law_draws) (defScope s__law_draws) [] [] a fd) (hm : mg "_law_draws" = some (.ref a)) : FnD P w K mg base (clsM clss K) "_law_draws" s__law_draws ["cell"] 1 M__law_draws := by
  refine fnD FD hm sc__law_draws rfl fun cdv A outer s H E hr => ?_
  have scN := sc__law_draws.nd
  have tkF : Takes (cxOf (L2.CX P w) P w K mg base ["cell"] "_law_draws" (defScope s__law_draws) a cdv A outer s H E) (fun c d _ H => E c d H) := takes_of rfl rfl rfl rfl
  have paF : PassesOwn (model P w) (cxOf (L2.CX P w) P w K mg base ["cell"] "_law_draws" (defScope s__law_draws) a cdv A outer s H E).A (cxOf (L2.CX P w) P w K mg base ["cell"] "_law_draws" (defScope s__law_draws) a cdv A outer s H E).env (cxOf (L2.CX P w) P w K mg base ["cell"] "_law_draws" (defScope s__law_draws) a cdv A outer s H E).xe := passes_of (X := (cxOf (L2.CX P w) P w K mg base ["cell"] "_law_draws" (defScope s__law_draws) a cdv A outer s H E)) rfl
  exact (qss_one (qs_ret (qe_lst true (qa_cons (qe_op o_mod (qe_var 0 (pv 0)) (qe_op o_pow (qe_op o_pow (qe_op o_pow qe_int qe_int) qe_int) qe_int)) (qa_cons qe_int (qa_cons (qe_cmp o_ge (qe_var 0 (pv 0)) (qe_op o_pow qe_int qe_int)) qa_nil))))))
abbrev s__law_next : Stmt := (top 19)
def W__law_next : MS := (mSeq (mSetIx (mOp (addO false) (mOp ixO (mVar 0) (mC (.int 1))) (mC (.int 1))) (mVar 0) (mC (.int 1))) (mSeq (mSet 1 (mOp ixO (mVar 0) (mC (.int 1)))) (mSeq (mIfS (mTru (mOp ixO (mVar 0) (mC (.int 2)))) (mSeq (mSet 2 (mOp modO (mOp ixO (mVar 0) (mC (.int 0))) (mOp powO (mC (.int 10)) (mC (.int 6))))) (mSeq (mSetIx (mOp fdivO (mOp ixO (mVar 0) (mC (.int 0))) (mOp powO (mC (.int 10)) (mC (.int 6)))) (mVar 0) (mC (.int 0))) (mRet (mVar 2)))) mNext) (mSeq (mSet 2 (mOp modO (mOp mulO (mOp (addO false) (mOp (addO false) (mOp modO (mOp ixO (mVar 0) (mC (.int 0))) (mC (.int 1000003))) (mOp mulO (mOp mulO (mVar 1) (mVar 1)) (mC (.int 7919)))) (mVar 1)) (mC (.int 48271))) (mC (.int 2147483629)))) (mSeq (mSet 2 (mOp modO (mOp mulO (mVar 2) (mVar 2)) (mC (.int 2147483587)))) (mRet (mOp fdivO (mOp modO (mOp mulO (mVar 2) (mOp (addO false) (mVar 2) (mC (.int 2)))) (mC (.int 2147483579))) (mC (.int 7)))))))))
def M__law_next : FM := fnM 2 W__law_next
theorem sc__law_next : FnScope ["draws", "k", "number"] ["draws"] (defScope s__law_next) := ⟨rfl, rfl, rfl, by decide +kernel, rfl, by decide +kernel, by decide +kernel⟩
theorem ok__law_next {P : Program} {w : World} {K : PySem.W.Frag} {mg : Str → Option Value} {base : Heap} {a : Addr} {fd : FuncData} (FD : FunD K "_law_next" "_law_next" (defArgs s__law_next) (defBody s__law_next) (defScope s__law_next) [] [] a fd) (hm : mg "_law_next" = some (.ref a)) : FnD P w K mg base (clsM clss K) "_law_next" s__law_next ["draws"] 1 M__law_next := by
  refine fnD FD hm sc__law_next rfl fun cdv A outer s H E hr => ?_
  have scN := sc__law_next.nd
  have tkF : Takes (cxOf (L2.CX P w) P w K mg base ["draws", "k", "number"] "_law_next" (defScope s__law_next) a cdv A outer s H E) (fun c d _ H => E c d H) := takes_of rfl rfl rfl rfl
  have paF : PassesOwn (model P w) (cxOf (L2.CX P w) P w K mg base ["draws", "k", "number"] "_law_next" (defScope s__law_next) a cdv A outer s H E).A (cxOf (L2.CX P w) P w K mg base ["draws", "k", "number"] "_law_next" (defScope s__law_next) a cdv A outer s H E).env (cxOf (L2.CX P w) P w K mg base ["draws", "k", "number"] "_law_next" (defScope s__law_next) a cdv A outer s H E).xe := passes_of (X := (cxOf (L2.CX P w) P w K mg base ["draws", "k", "number"] "_law_next" (defScope s__law_next) a cdv A outer s H E)) rfl
  exact (qss_cons (qs_setix (qe_op (o_add false) (qe_ix o_ix (qe_var 0 (pv 0)) qe_int) qe_int) (qe_var 0 (pv 0)) qe_int) (qss_cons (qs_set (i := 1) scN (qe_ix o_ix (qe_var 0 (pv 0)) qe_int)) (qss_cons (qs_if (qt_val (qe_ix o_ix (qe_var 0 (pv 0)) qe_int)) (qss_cons (qs_set (i := 2) scN (qe_op o_mod (qe_ix o_ix (qe_var 0 (pv 0)) qe_int) (qe_op o_pow qe_int qe_int))) (qss_cons (qs_setix (qe_op o_fdiv (qe_ix o_ix (qe_var 0 (pv 0)) qe_int) (qe_op o_pow qe_int qe_int)) (qe_var 0 (pv 0)) qe_int) (qss_one (qs_ret (qe_var 2 (pv 2)))))) qss_nil) (qss_cons (qs_set (i := 2) scN (qe_op o_mod (qe_op o_mul (qe_op (o_add false) (qe_op (o_add false) (qe_op o_mod (qe_ix o_ix (qe_var 0 (pv 0)) qe_int) qe_int) (qe_op o_mul (qe_op o_mul (qe_var 1 (pv 1)) (qe_var 1 (pv 1))) qe_int)) (qe_var 1 (pv 1))) qe_int) qe_int)) (qss_cons (qs_set (i := 2) scN (qe_op o_mod (qe_op o_mul (qe_var 2 (pv 2)) (qe_var 2 (pv 2))) qe_int)) (qss_one (qs_ret (qe_op o_fdiv (qe_op o_mod (qe_op o_mul (qe_var 2 (pv 2)) (qe_op (o_add false) (qe_var 2 (pv 2)) qe_int)) qe_int) qe_int))))))))
abbrev s__law_length : Stmt := (top 20)
def W__law_length : MS := (mSeq (mSet 2 (mAndV (mOp eqO (mOp modO (mVar 0) (mC (.int 4))) (mC (.int 0))) (mOrV (mOp neO (mOp modO (mVar 0) (mC (.int 100))) (mC (.int 0))) (mOp eqO (mOp modO (mVar 0) (mC (.int 400))) (mC (.int 0)))))) (mRet (mOp ixO (mLst false (mCons (mC (.int 31)) (mCons (mOp (addO false) (mC (.int 28)) (mCall intO (mCons (mVar 2) mNil))) (mCons (mC (.int 31)) (mCons (mC (.int 30)) (mCons (mC (.int 31)) (mCons (mC (.int 30)) (mCons (mC (.int 31)) (mCons (mC (.int 31)) (mCons (mC (.int 30)) (mCons (mC (.int 31)) (mCons (mC (.int 30)) (mCons (mC (.int 31)) mNil))))))))))))) (mOp subO (mVar 1) (mC (.int 1))))))
def M__law_length : FM := fnM 1 W__law_length
theorem sc__law_length : FnScope ["year", "month", "leap"] ["year", "month"] (defScope s__law_length) := ⟨rfl, rfl, rfl, by decide +kernel, rfl, by decide +kernel, by decide +kernel⟩
theorem ok__law_length {P : Program} {w : World} {K : PySem.W.Frag} {mg : Str → Option Value} {base : Heap} {a : Addr} {fd : FuncData} (FD : FunD K "_law_length" "_law_length" (defArgs s__law_length) (defBody s__law_length) (defScope s__law_length) [] [] a fd) (hm : mg "_law_length" = some (.ref a)) (b_int : mg "int" = none) : FnD P w K mg base (clsM clss K) "_law_length" s__law_length ["year", "month"] 1 M__law_length := by
  refine fnD FD hm sc__law_length rfl fun cdv A outer s H E hr => ?_
  have scN := sc__law_length.nd
  have tkF : Takes (cxOf (L2.CX P w) P w K mg base ["year", "month", "leap"] "_law_length" (defScope s__law_length) a cdv A outer s H E) (fun c d _ H => E c d H) := takes_of rfl rfl rfl rfl
  have paF : PassesOwn (model P w) (cxOf (L2.CX P w) P w K mg base ["year", "month", "leap"] "_law_length" (defScope s__law_length) a cdv A outer s H E).A (cxOf (L2.CX P w) P w K mg base ["year", "month", "leap"] "_law_length" (defScope s__law_length) a cdv A outer s H E).env (cxOf (L2.CX P w) P w K mg base ["year", "month", "leap"] "_law_length" (defScope s__law_length) a cdv A outer s H E).xe := passes_of (X := (cxOf (L2.CX P w) P w K mg base ["year", "month", "leap"] "_law_length" (defScope s__law_length) a cdv A outer s H E)) rfl
  exact (qss_cons (qs_set (i := 2) scN (qe_and (qe_cmp (o_eq hr.units) (qe_op o_mod (qe_var 0 (pv 0)) qe_int) qe_int) (qe_one (qe_or (qe_cmp (o_ne hr.units) (qe_op o_mod (qe_var 0 (pv 0)) qe_int) qe_int) (qe_one (qe_cmp (o_eq hr.units) (qe_op o_mod (qe_var 0 (pv 0)) qe_int) qe_int)))))) (qss_one (qs_ret (qe_ix o_ix (qe_lst false (qa_cons qe_int (qa_cons (qe_op (o_add false) qe_int (qe_callTy c_int b_int (by decide +kernel) (qa_cons (qe_var 2 (pv 2)) qa_nil))) (qa_cons qe_int (qa_cons qe_int (qa_cons qe_int (qa_cons qe_int (qa_cons qe_int (qa_cons qe_int (qa_cons qe_int (qa_cons qe_int (qa_cons qe_int (qa_cons qe_int qa_nil))))))))))))) (qe_op o_sub (qe_var 1 (pv 1)) qe_int)))))
abbrev s__law_year : Stmt := (top 21)
def W__law_year : MS := (mSeq (mSet 1 (mCall M__law_next (mCons (mVar 0) mNil))) (mSeq (mSet 2 (mOp modO (mOp fdivO (mVar 1) (mC (.int 8))) (mC (.int 27000)))) (mRet (mOp ixO (mLst false (mCons (mOp (addO false) (mC (.int 1999)) (mOp modO (mOp fdivO (mVar 1) (mC (.int 8))) (mC (.int 9)))) (mCons (mOp subO (mC (.int 0)) (mOp modO (mOp fdivO (mVar 1) (mC (.int 8))) (mC (.int 9)))) (mCons (mOp (addO false) (mC (.int 1600)) (mOp mulO (mC (.int 100)) (mOp modO (mOp fdivO (mVar 1) (mC (.int 8))) (mC (.int 9))))) (mCons (mVar 2) (mCons (mOp subO (mC (.int 0)) (mVar 2)) mNil)))))) (mOp modO (mVar 1) (mC (.int 5)))))))
def M__law_year : FM := fnM 2 W__law_year
theorem sc__law_year : FnScope ["draws", "pick", "far"] ["draws"] (defScope s__law_year) := ⟨rfl, rfl, rfl, by decide +kernel, rfl, by decide +kernel, by decide +kernel⟩
theorem ok__law_year {P : Program} {w : World} {K : PySem.W.Frag} {mg : Str → Option Value} {base : Heap} {a : Addr} {fd : FuncData} (FD : FunD K "_law_year" "_law_year" (defArgs s__law_year) (defBody s__law_year) (defScope s__law_year) [] [] a fd) (hm : mg "_law_year" = some (.ref a)) (g__law_next : FnD P w K mg base (clsM clss K) "_law_next" s__law_next ["draws"] 1 M__law_next) : FnD P w K mg base (clsM clss K) "_law_year" s__law_year ["draws"] 2 M__law_year := by
  refine fnD FD hm sc__law_year rfl fun cdv A outer s H E hr => ?_
  have scN := sc__law_year.nd
  have tkF : Takes (cxOf (L2.CX P w) P w K mg base ["draws", "pick", "far"] "_law_year" (defScope s__law_year) a cdv A outer s H E) (fun c d _ H => E c d H) := takes_of rfl rfl rfl rfl
  have paF : PassesOwn (model P w) (cxOf (L2.CX P w) P w K mg base ["draws", "pick", "far"] "_law_year" (defScope s__law_year) a cdv A outer s H E).A (cxOf (L2.CX P w) P w K mg base ["draws", "pick", "far"] "_law_year" (defScope s__law_year) a cdv A outer s H E).env (cxOf (L2.CX P w) P w K mg base ["draws", "pick", "far"] "_law_year" (defScope s__law_year) a cdv A outer s H E).xe := passes_of (X := (cxOf (L2.CX P w) P w K mg base ["draws", "pick", "far"] "_law_year" (defScope s__law_year) a cdv A outer s H E)) rfl
  exact (qss_cons (qs_set (i := 1) scN (qe_call g__law_next (hr.mono (by decide)) tkF (qa_cons (qe_var 0 (pv 0)) qa_nil) (fun _ _ _ _ _ _ us hl => match us, hl with | [_], _ => rfl) (len_cons len_nil))) (qss_cons (qs_set (i := 2) scN (qe_op o_mod (qe_op o_fdiv (qe_var 1 (pv 1)) qe_int) qe_int)) (qss_one (qs_ret (qe_ix o_ix (qe_lst false (qa_cons (qe_op (o_add false) qe_int (qe_op o_mod (qe_op o_fdiv (qe_var 1 (pv 1)) qe_int) qe_int)) (qa_cons (qe_op o_sub qe_int (qe_op o_mod (qe_op o_fdiv (qe_var 1 (pv 1)) qe_int) qe_int)) (qa_cons (qe_op (o_add false) qe_int (qe_op o_mul qe_int (qe_op o_mod (qe_op o_fdiv (qe_var 1 (pv 1)) qe_int) qe_int))) (qa_cons (qe_var 2 (pv 2)) (qa_cons (qe_op o_sub qe_int (qe_var 2 (pv 2))) qa_nil)))))) (qe_op o_mod (qe_var 1 (pv 1)) qe_int))))))
abbrev s__law_date : Stmt := (top 22)
def W__law_date : MS := (mSeq (mSet 1 (mCall M__law_year (mCons (mVar 0) mNil))) (mSeq (mSet 2 (mCall M__law_next (mCons (mVar 0) mNil))) (mSeq (mSet 3 (mOp ixO (mLst false (mCons (mOp (addO false) (mC (.int 1)) (mOp modO (mOp fdivO (mVar 2) (mC (.int 8))) (mC (.int 12)))) (mCons (mC (.int 2)) (mCons (mC (.int 3)) (mCons (mC (.int 12)) mNil))))) (mCall (int2O maxI) (mCons (mC (.int 0)) (mCons (mOp subO (mOp modO (mVar 2) (mC (.int 8))) (mC (.int 4))) mNil))))) (mSeq (mSet 4 (mCall M__law_length (mCons (mVar 1) (mCons (mVar 3) mNil)))) (mRet (mTup (mCons (mVar 1) (mCons (mVar 3) (mCons (mOp ixO (mLst false (mCons (mOp (addO false) (mC (.int 1)) (mOp modO (mOp fdivO (mVar 2) (mC (.int 96))) (mVar 4))) (mCons (mC (.int 1)) (mCons (mVar 4) mNil)))) (mCall (int2O maxI) (mCons (mC (.int 0)) (mCons (mOp subO (mOp modO (mOp fdivO (mVar 2) (mC (.int 2688))) (mC (.int 5))) (mC (.int 2))) mNil)))) mNil)))))))))
def M__law_date : FM := fnM 4 W__law_date
theorem sc__law_date : FnScope ["draws", "year", "pick", "month", "length"] ["draws"] (defScope s__law_date) := ⟨rfl, rfl, rfl, by decide +kernel, rfl, by decide +kernel, by decide +kernel⟩
theorem ok__law_date {P : Program} {w : World} {K : PySem.W.Frag} {mg : Str → Option Value} {base : Heap} {a : Addr} {fd : FuncData} (FD : FunD K "_law_date" "_law_date" (defArgs s__law_date) (defBody s__law_date) (defScope s__law_date) [] [] a fd) (hm : mg "_law_date" = some (.ref a)) (b_max : mg "max" = none) (g__law_length : FnD P w K mg base (clsM clss K) "_law_length" s__law_length ["year", "month"] 1 M__law_length) (g__law_next : FnD P w K mg base (clsM clss K) "_law_next" s__law_next ["draws"] 1 M__law_next) (g__law_year : FnD P w K mg base (clsM clss K) "_law_year" s__law_year ["draws"] 2 M__law_year) : FnD P w K mg base (clsM clss K) "_law_date" s__law_date ["draws"] 3 M__law_date := by
  refine fnD FD hm sc__law_date rfl fun cdv A outer s H E hr => ?_
  have scN := sc__law_date.nd
  have tkF : Takes (cxOf (L2.CX P w) P w K mg base ["draws", "year", "pick", "month", "length"] "_law_date" (defScope s__law_date) a cdv A outer s H E) (fun c d _ H => E c d H) := takes_of rfl rfl rfl rfl
  have paF : PassesOwn (model P w) (cxOf (L2.CX P w) P w K mg base ["draws", "year", "pick", "month", "length"] "_law_date" (defScope s__law_date) a cdv A outer s H E).A (cxOf (L2.CX P w) P w K mg base ["draws", "year", "pick", "month", "length"] "_law_date" (defScope s__law_date) a cdv A outer s H E).env (cxOf (L2.CX P w) P w K mg base ["draws", "year", "pick", "month", "length"] "_law_date" (defScope s__law_date) a cdv A outer s H E).xe := passes_of (X := (cxOf (L2.CX P w) P w K mg base ["draws", "year", "pick", "month", "length"] "_law_date" (defScope s__law_date) a cdv A outer s H E)) rfl
  exact (qss_cons (qs_set (i := 1) scN (qe_call g__law_year (hr.mono (by decide)) tkF (qa_cons (qe_var 0 (pv 0)) qa_nil) (fun _ _ _ _ _ _ us hl => match us, hl with | [_], _ => rfl) (len_cons len_nil))) (qss_cons (qs_set (i := 2) scN (qe_call g__law_next (hr.mono (by decide)) tkF (qa_cons (qe_var 0 (pv 0)) qa_nil) (fun _ _ _ _ _ _ us hl => match us, hl with | [_], _ => rfl) (len_cons len_nil))) (qss_cons (qs_set (i := 3) scN (qe_ix o_ix (qe_lst false (qa_cons (qe_op (o_add false) qe_int (qe_op o_mod (qe_op o_fdiv (qe_var 2 (pv 2)) qe_int) qe_int)) (qa_cons qe_int (qa_cons qe_int (qa_cons qe_int qa_nil))))) (qe_callB (c_max2 rfl) b_max (by decide +kernel) (qa_cons qe_int (qa_cons (qe_op o_sub (qe_op o_mod (qe_var 2 (pv 2)) qe_int) qe_int) qa_nil))))) (qss_cons (qs_set (i := 4) scN (qe_call g__law_length (hr.mono (by decide)) tkF (qa_cons (qe_var 1 (pv 1)) (qa_cons (qe_var 3 (pv 3)) qa_nil)) (fun _ _ _ _ _ _ us hl => match us, hl with | [_, _], _ => rfl) (len_cons (len_cons len_nil)))) (qss_one (qs_ret (qe_tup (qa_cons (qe_var 1 (pv 1)) (qa_cons (qe_var 3 (pv 3)) (qa_cons (qe_ix o_ix (qe_lst false (qa_cons (qe_op (o_add false) qe_int (qe_op o_mod (qe_op o_fdiv (qe_var 2 (pv 2)) qe_int) (qe_var 4 (pv 4)))) (qa_cons qe_int (qa_cons (qe_var 4 (pv 4)) qa_nil)))) (qe_callB (c_max2 rfl) b_max (by decide +kernel) (qa_cons qe_int (qa_cons (qe_op o_sub (qe_op o_mod (qe_op o_fdiv (qe_var 2 (pv 2)) qe_int) qe_int) qe_int) qa_nil)))) qa_nil))))))))))
abbrev s__law_told : Stmt := (top 23)
def W__law_told : MS := (mSeq (mSet 1 (mC .non)) (mSeq (mSet 2 (mC .non)) (mSeq (mTry (subX xT) (mSet 2 (mCall M_day_of (mCons (mOp ixO (mVar 0) (mC (.int 0))) (mCons (mOp ixO (mVar 0) (mC (.int 1))) (mCons (mOp ixO (mVar 0) (mC (.int 2))) mNil))))) [⟨[.xc "Fault", .xc "NoDay", .xc "NoKind", .xc "NoMoment", .xc "NoName", .xc "NoPath", .xc "NoQuestion", .xc "NoTable", .xc "NoTerm", .xc "NoText"], (some 3), (mSet 1 (mVar 3))⟩]) (mSeq (mIfS (mTruB (mOp isNO (mVar 1) (mC .non))) (mRet (mLst false (mCons (mC (.str "told")) (mCons (mUn (fld "number") (mVar 2)) mNil)))) mNext) (mSeq (mIfS (mOr (mNot (mTru (mCall (isiX sub exs (subX xT)) (mCons (mVar 1) (mCons (mC (.xcl "NoDay")) mNil))))) (mNot (mTru (mCall (isiX sub exs (subX xT)) (mCons (mVar 1) (mCons (mC (.ty "ValueError")) mNil)))))) (mRet (mLst false (mCons (mC (.str "other")) mNil))) mNext) (mSeq (mIfS (mTru (mCall (isiX sub exs (subX xT)) (mCons (mVar 1) (mCons (mTup (mCons (mC (.xcl "NoKind")) (mCons (mC (.xcl "NoName")) (mCons (mC (.xcl "NoQuestion")) (mCons (mC (.xcl "NoTable")) (mCons (mC (.xcl "NoTerm")) (mCons (mC (.xcl "NoText")) mNil))))))) mNil)))) (mRet (mLst false (mCons (mC (.str "other")) mNil))) mNext) (mRet (mLst false (mCons (mC (.str "none")) (mCons (mUn (fldX exs "parts") (mVar 1)) (mCons (mCall (isiX sub exs (subX xT)) (mCons (mUn (fldX exs "parts") (mVar 1)) (mCons (mC (.ty "tuple")) mNil))) mNil)))))))))))
def M__law_told : FM := fnM 3 W__law_told
theorem sc__law_told : FnScope ["date", "kept", "told", "e"] ["date"] (defScope s__law_told) := ⟨rfl, rfl, rfl, by decide +kernel, rfl, by decide +kernel, by decide +kernel⟩
theorem ok__law_told {P : Program} {w : World} {K : PySem.W.Frag} {mg : Str → Option Value} {base : Heap} {a : Addr} {fd : FuncData} (FD : FunD K "_law_told" "_law_told" (defArgs s__law_told) (defBody s__law_told) (defScope s__law_told) [] [] a fd) (hm : mg "_law_told" = some (.ref a)) (b_ValueError : mg "ValueError" = none) (b_isinstance : mg "isinstance" = none) (b_tuple : mg "tuple" = none) (c_NoDay : GC K mg (clsM clss K) "NoDay" (.xcl "NoDay")) (c_NoKind : GC K mg (clsM clss K) "NoKind" (.xcl "NoKind")) (c_NoName : GC K mg (clsM clss K) "NoName" (.xcl "NoName")) (c_NoQuestion : GC K mg (clsM clss K) "NoQuestion" (.xcl "NoQuestion")) (c_NoTable : GC K mg (clsM clss K) "NoTable" (.xcl "NoTable")) (c_NoTerm : GC K mg (clsM clss K) "NoTerm" (.xcl "NoTerm")) (c_NoText : GC K mg (clsM clss K) "NoText" (.xcl "NoText")) (x_Fault : mg "Fault" = some (.ref (He.ga K "Fault"))) (x_NoDay : mg "NoDay" = some (.ref (He.ga K "NoDay"))) (x_NoKind : mg "NoKind" = some (.ref (He.ga K "NoKind"))) (x_NoMoment : mg "NoMoment" = some (.ref (He.ga K "NoMoment"))) (x_NoName : mg "NoName" = some (.ref (He.ga K "NoName"))) (x_NoPath : mg "NoPath" = some (.ref (He.ga K "NoPath"))) (x_NoQuestion : mg "NoQuestion" = some (.ref (He.ga K "NoQuestion"))) (x_NoTable : mg "NoTable" = some (.ref (He.ga K "NoTable"))) (x_NoTerm : mg "NoTerm" = some (.ref (He.ga K "NoTerm"))) (x_NoText : mg "NoText" = some (.ref (He.ga K "NoText"))) (fx_parts : XfOk K exs "parts") (xmOk : XmOk K (subX xT)) (excOk : ∀ c ∈ exs, ExcC K (He.ga K c)) (xiOk : XiOk K (subX xT)) (f_number : FldOk K (clsM clss K) "number") (f_parts : FldOk K (clsM clss K) "parts") (g_day_of : FnD P w K mg base (clsM clss K) "day_of" s_day_of ["year", "month", "day"] 3 M_day_of) (insOk : ∀ c C, (clsM clss K) c = some C → InsOk K C) (subOk : SubOk K (clsM clss K) sub) : FnD P w K mg base (clsM clss K) "_law_told" s__law_told ["date"] 4 M__law_told := by
  refine fnD FD hm sc__law_told rfl fun cdv A outer s H E hr => ?_
  have scN := sc__law_told.nd
  have tkF : Takes (cxOf (L2.CX P w) P w K mg base ["date", "kept", "told", "e"] "_law_told" (defScope s__law_told) a cdv A outer s H E) (fun c d _ H => E c d H) := takes_of rfl rfl rfl rfl
  have paF : PassesOwn (model P w) (cxOf (L2.CX P w) P w K mg base ["date", "kept", "told", "e"] "_law_told" (defScope s__law_told) a cdv A outer s H E).A (cxOf (L2.CX P w) P w K mg base ["date", "kept", "told", "e"] "_law_told" (defScope s__law_told) a cdv A outer s H E).env (cxOf (L2.CX P w) P w K mg base ["date", "kept", "told", "e"] "_law_told" (defScope s__law_told) a cdv A outer s H E).xe := passes_of (X := (cxOf (L2.CX P w) P w K mg base ["date", "kept", "told", "e"] "_law_told" (defScope s__law_told) a cdv A outer s H E)) rfl
  exact (qss_cons (qs_set (i := 1) scN qe_non) (qss_cons (qs_set (i := 2) scN qe_non) (qss_cons (qs_try rfl rfl scN tkF xmOk (fun _ _ _ tkF paF => (qss_one (qs_set (i := 2) scN (qe_call g_day_of (hr.mono (by decide)) tkF (qa_cons (qe_ix o_ix (qe_var 0 (pv 0)) qe_int) (qa_cons (qe_ix o_ix (qe_var 0 (pv 0)) qe_int) (qa_cons (qe_ix o_ix (qe_var 0 (pv 0)) qe_int) qa_nil))) (fun _ _ _ _ _ _ us hl => match us, hl with | [_, _, _], _ => rfl) (len_cons (len_cons (len_cons len_nil))))))) (HdsP.cons (TstE.tup (l := [("Fault", _, .xc "Fault"), ("NoDay", _, .xc "NoDay"), ("NoKind", _, .xc "NoKind"), ("NoMoment", _, .xc "NoMoment"), ("NoName", _, .xc "NoName"), ("NoPath", _, .xc "NoPath"), ("NoQuestion", _, .xc "NoQuestion"), ("NoTable", _, .xc "NoTable"), ("NoTerm", _, .xc "NoTerm"), ("NoText", _, .xc "NoText")]) (tst_cons (nmX x_Fault) (tst_cons (nmX x_NoDay) (tst_cons (nmX x_NoKind) (tst_cons (nmX x_NoMoment) (tst_cons (nmX x_NoName) (tst_cons (nmX x_NoPath) (tst_cons (nmX x_NoQuestion) (tst_cons (nmX x_NoTable) (tst_cons (nmX x_NoTerm) (tst_cons (nmX x_NoText) tst_nil)))))))))) (by decide)) (show SlotOk _ (some "e") (some 3) from ⟨rfl, by first | rfl | decide⟩) (fun _ _ => (qss_one (qs_set (i := 1) scN (qe_var 3 (pv 3))))) HdsP.nil)) (qss_cons (qs_if (qt_cmp o_isN (qe_var 1 (pv 1)) qe_non) (qss_one (qs_ret (qe_lst false (qa_cons qe_str (qa_cons (qe_fld f_number (qe_var 2 (pv 2))) qa_nil))))) qss_nil) (qss_cons (qs_if (qt_pw (qw_or (qt_not (qt_val (qe_callB (c_isiX insOk subOk excOk xiOk) b_isinstance (by decide +kernel) (qa_cons (qe_var 1 (pv 1)) (qa_cons (qe_glob c_NoDay) qa_nil))))) (qw_or1 (qt_not (qt_val (qe_callB (c_isiX insOk subOk excOk xiOk) b_isinstance (by decide +kernel) (qa_cons (qe_var 1 (pv 1)) (qa_cons (qe_ty b_ValueError (by decide +kernel)) qa_nil)))))))) (qss_one (qs_ret (qe_lst false (qa_cons qe_str qa_nil)))) qss_nil) (qss_cons (qs_if (qt_val (qe_callB (c_isiX insOk subOk excOk xiOk) b_isinstance (by decide +kernel) (qa_cons (qe_var 1 (pv 1)) (qa_cons (qe_tup (qa_cons (qe_glob c_NoKind) (qa_cons (qe_glob c_NoName) (qa_cons (qe_glob c_NoQuestion) (qa_cons (qe_glob c_NoTable) (qa_cons (qe_glob c_NoTerm) (qa_cons (qe_glob c_NoText) qa_nil))))))) qa_nil)))) (qss_one (qs_ret (qe_lst false (qa_cons qe_str qa_nil)))) qss_nil) (qss_one (qs_ret (qe_lst false (qa_cons qe_str (qa_cons (qe_fldX fx_parts f_parts (qe_var 1 (pv 1))) (qa_cons (qe_callB (c_isiX insOk subOk excOk xiOk) b_isinstance (by decide +kernel) (qa_cons (qe_fldX fx_parts f_parts (qe_var 1 (pv 1))) (qa_cons (qe_ty b_tuple (by decide +kernel)) qa_nil))) qa_nil))))))))))))
abbrev s__law_bent : Stmt := (top 24)
def W__law_bent : MS := (mSeq (mSet 2 (mCall M__law_next (mCons (mVar 0) mNil))) (mSeq (mAsg (mVar 1) (tgT [3, 4, 5])) (mSeq (mSet 6 (mOp ixO (mLst false (mCons (mC (.int 1)) (mCons (mC (.int 1)) (mCons (mC (.int 2)) (mCons (mOp powO (mC (.int 10)) (mC (.int 6))) mNil))))) (mOp modO (mOp fdivO (mVar 2) (mC (.int 8))) (mC (.int 4))))) (mSeq (mIfS (mTruB (mOp ltO (mOp modO (mVar 2) (mC (.int 8))) (mC (.int 2)))) (mRet (mTup (mCons (mVar 3) (mCons (mOp ixO (mLst false (mCons (mC (.int 13)) (mCons (mOp (addO false) (mC (.int 12)) (mVar 6)) mNil))) (mOp modO (mOp fdivO (mVar 2) (mC (.int 64))) (mC (.int 2)))) (mCons (mVar 5) mNil))))) mNext) (mSeq (mIfS (mTruB (mOp ltO (mOp modO (mVar 2) (mC (.int 8))) (mC (.int 4)))) (mRet (mTup (mCons (mVar 3) (mCons (mOp ixO (mLst false (mCons (mC (.int 0)) (mCons (mOp subO (mC (.int 1)) (mVar 6)) mNil))) (mOp modO (mOp fdivO (mVar 2) (mC (.int 64))) (mC (.int 2)))) (mCons (mVar 5) mNil))))) mNext) (mSeq (mIfS (mTruB (mOp ltO (mOp modO (mVar 2) (mC (.int 8))) (mC (.int 6)))) (mRet (mTup (mCons (mVar 3) (mCons (mVar 4) (mCons (mOp (addO false) (mCall M__law_length (mCons (mVar 3) (mCons (mVar 4) mNil))) (mVar 6)) mNil))))) mNext) (mRet (mTup (mCons (mVar 3) (mCons (mOp ixO (mLst false (mCons (mVar 4) (mCons (mC (.int 13)) mNil))) (mCall intO (mCons (mOp eqO (mOp modO (mVar 2) (mC (.int 8))) (mC (.int 7))) mNil))) (mCons (mOp ixO (mLst false (mCons (mC (.int 0)) (mCons (mOp subO (mC (.int 1)) (mVar 6)) mNil))) (mOp modO (mOp fdivO (mVar 2) (mC (.int 64))) (mC (.int 2)))) mNil)))))))))))
def M__law_bent : FM := fnM 5 W__law_bent
theorem sc__law_bent : FnScope ["draws", "date", "pick", "year", "month", "day", "far"] ["draws", "date"] (defScope s__law_bent) := ⟨rfl, rfl, rfl, by decide +kernel, rfl, by decide +kernel, by decide +kernel⟩
theorem ok__law_bent {P : Program} {w : World} {K : PySem.W.Frag} {mg : Str → Option Value} {base : Heap} {a : Addr} {fd : FuncData} (FD : FunD K "_law_bent" "_law_bent" (defArgs s__law_bent) (defBody s__law_bent) (defScope s__law_bent) [] [] a fd) (hm : mg "_law_bent" = some (.ref a)) (b_int : mg "int" = none) (g__law_length : FnD P w K mg base (clsM clss K) "_law_length" s__law_length ["year", "month"] 1 M__law_length) (g__law_next : FnD P w K mg base (clsM clss K) "_law_next" s__law_next ["draws"] 1 M__law_next) : FnD P w K mg base (clsM clss K) "_law_bent" s__law_bent ["draws", "date"] 2 M__law_bent := by
  refine fnD FD hm sc__law_bent rfl fun cdv A outer s H E hr => ?_
  have scN := sc__law_bent.nd
  have tkF : Takes (cxOf (L2.CX P w) P w K mg base ["draws", "date", "pick", "year", "month", "day", "far"] "_law_bent" (defScope s__law_bent) a cdv A outer s H E) (fun c d _ H => E c d H) := takes_of rfl rfl rfl rfl
  have paF : PassesOwn (model P w) (cxOf (L2.CX P w) P w K mg base ["draws", "date", "pick", "year", "month", "day", "far"] "_law_bent" (defScope s__law_bent) a cdv A outer s H E).A (cxOf (L2.CX P w) P w K mg base ["draws", "date", "pick", "year", "month", "day", "far"] "_law_bent" (defScope s__law_bent) a cdv A outer s H E).env (cxOf (L2.CX P w) P w K mg base ["draws", "date", "pick", "year", "month", "day", "far"] "_law_bent" (defScope s__law_bent) a cdv A outer s H E).xe := passes_of (X := (cxOf (L2.CX P w) P w K mg base ["draws", "date", "pick", "year", "month", "day", "far"] "_law_bent" (defScope s__law_bent) a cdv A outer s H E)) rfl
  exact (qss_cons (qs_set (i := 2) scN (qe_call g__law_next (hr.mono (by decide)) tkF (qa_cons (qe_var 0 (pv 0)) qa_nil) (fun _ _ _ _ _ _ us hl => match us, hl with | [_], _ => rfl) (len_cons len_nil))) (qss_cons (qs_asg (qe_var 1 (pv 1)) (qg_tup (js := [3, 4, 5]) rfl (Gn.cons (Gn.cons (Gn.cons Gn.nil))) (pgs_cons (pg_name (i := 3) scN rfl (by first | exact Or.inl rfl | exact Or.inr rfl)) (pgs_cons (pg_name (i := 4) scN rfl (by first | exact Or.inl rfl | exact Or.inr rfl)) (pgs_cons (pg_name (i := 5) scN rfl (by first | exact Or.inl rfl | exact Or.inr rfl)) pgs_nil))))) (qss_cons (qs_set (i := 6) scN (qe_ix o_ix (qe_lst false (qa_cons qe_int (qa_cons qe_int (qa_cons qe_int (qa_cons (qe_op o_pow qe_int qe_int) qa_nil))))) (qe_op o_mod (qe_op o_fdiv (qe_var 2 (pv 2)) qe_int) qe_int))) (qss_cons (qs_if (qt_cmp o_lt (qe_op o_mod (qe_var 2 (pv 2)) qe_int) qe_int) (qss_one (qs_ret (qe_tup (qa_cons (qe_var 3 (pv 3)) (qa_cons (qe_ix o_ix (qe_lst false (qa_cons qe_int (qa_cons (qe_op (o_add false) qe_int (qe_var 6 (pv 6))) qa_nil))) (qe_op o_mod (qe_op o_fdiv (qe_var 2 (pv 2)) qe_int) qe_int)) (qa_cons (qe_var 5 (pv 5)) qa_nil)))))) qss_nil) (qss_cons (qs_if (qt_cmp o_lt (qe_op o_mod (qe_var 2 (pv 2)) qe_int) qe_int) (qss_one (qs_ret (qe_tup (qa_cons (qe_var 3 (pv 3)) (qa_cons (qe_ix o_ix (qe_lst false (qa_cons qe_int (qa_cons (qe_op o_sub qe_int (qe_var 6 (pv 6))) qa_nil))) (qe_op o_mod (qe_op o_fdiv (qe_var 2 (pv 2)) qe_int) qe_int)) (qa_cons (qe_var 5 (pv 5)) qa_nil)))))) qss_nil) (qss_cons (qs_if (qt_cmp o_lt (qe_op o_mod (qe_var 2 (pv 2)) qe_int) qe_int) (qss_one (qs_ret (qe_tup (qa_cons (qe_var 3 (pv 3)) (qa_cons (qe_var 4 (pv 4)) (qa_cons (qe_op (o_add false) (qe_call g__law_length (hr.mono (by decide)) tkF (qa_cons (qe_var 3 (pv 3)) (qa_cons (qe_var 4 (pv 4)) qa_nil)) (fun _ _ _ _ _ _ us hl => match us, hl with | [_, _], _ => rfl) (len_cons (len_cons len_nil))) (qe_var 6 (pv 6))) qa_nil)))))) qss_nil) (qss_one (qs_ret (qe_tup (qa_cons (qe_var 3 (pv 3)) (qa_cons (qe_ix o_ix (qe_lst false (qa_cons (qe_var 4 (pv 4)) (qa_cons qe_int qa_nil))) (qe_callTy c_int b_int (by decide +kernel) (qa_cons (qe_cmp (o_eq hr.units) (qe_op o_mod (qe_var 2 (pv 2)) qe_int) qe_int) qa_nil))) (qa_cons (qe_ix o_ix (qe_lst false (qa_cons qe_int (qa_cons (qe_op o_sub qe_int (qe_var 6 (pv 6))) qa_nil))) (qe_op o_mod (qe_op o_fdiv (qe_var 2 (pv 2)) qe_int) qe_int)) qa_nil))))))))))))
abbrev s_law : Stmt := (top 25)
def oeq : Str → Option FM := fun c => if c = "Day" then some M_Day__eq__ else none
def B0_law : MS := (mSeq (mSet 4 (mCall M__law_bent (mCons (mVar 2) (mCons (mCall M__law_date (mCons (mVar 2) mNil)) mNil)))) (mSeq (mIfS (mTruB (mOp (neX oeq) (mCall M__law_told (mCons (mVar 4) mNil)) (mLst false (mCons (mC (.str "none")) (mCons (mVar 4) (mCons (mC (.bl true)) mNil)))))) (mRet (mC (.bl false))) mNext) (mSeq (mSet 5 (mCall M__law_year (mCons (mVar 2) mNil))) (mSeq (mSet 6 (mCall M__law_told (mCons (mTup (mCons (mVar 5) (mCons (mC (.int 2)) (mCons (mC (.int 29)) mNil)))) mNil))) (mIfS (mTruB (mOp (neX oeq) (mOp ixO (mVar 6) (mC (.int 0))) (mOp ixO (mLst false (mCons (mC (.str "none")) (mCons (mC (.str "told")) mNil))) (mCall intO (mCons (mOp eqO (mCall M__law_length (mCons (mVar 5) (mCons (mC (.int 2)) mNil))) (mC (.int 29))) mNil))))) (mRet (mC (.bl false))) mNext)))))
def B1_law : MS := (mSeq (mSet 2 (mCall M__law_draws (mCons (mVar 1) mNil))) (mFor (tgN 3) (range1 (mCons (mC (.int 10)) mNil)) B0_law))
def W_law : MS := (mSeq (mFor (tgN 1) (itemsL (mOp (addO false) (mSl (slO false) (mVar 0) mNoPart (mPart (mC (.int 10)))) (mLst false (mCons (mC (.int 0)) mNil)))) B1_law) (mRet (mOp (eqX oeq) (mComp false [5] (tgN 5) (itemsL (mLst false (mCons (mC (.int 1900)) (mCons (mC (.int 2000)) (mCons (mC (.int 2023)) (mCons (mC (.int 2024)) (mCons (mC (.int 0)) (mCons (mUn negO (mC (.int 1))) (mCons (mUn negO (mC (.int 4))) (mCons (mUn negO (mC (.int 100))) (mCons (mUn negO (mC (.int 400))) mNil))))))))))) mYes (mOp ixO (mCall M__law_told (mCons (mTup (mCons (mVar 5) (mCons (mC (.int 2)) (mCons (mC (.int 29)) mNil)))) mNil)) (mC (.int 0)))) (mLst false (mCons (mC (.str "none")) (mCons (mC (.str "told")) (mCons (mC (.str "none")) (mCons (mC (.str "told")) (mCons (mC (.str "told")) (mCons (mC (.str "none")) (mCons (mC (.str "told")) (mCons (mC (.str "none")) (mCons (mC (.str "told")) mNil)))))))))))))
def M_law : FM := fnM 6 W_law
theorem sc_law : FnScope ["script", "cell", "draws", "turn", "bent", "year", "told"] ["script"] (defScope s_law) := ⟨rfl, rfl, rfl, by decide +kernel, rfl, by decide +kernel, by decide +kernel⟩
theorem ok_law {P : Program} {w : World} {K : PySem.W.Frag} {mg : Str → Option Value} {base : Heap} {a : Addr} {fd : FuncData} (FD : FunD K "law" "law" (defArgs s_law) (defBody s_law) (defScope s_law) [] [] a fd) (hm : mg "law" = some (.ref a)) (b_int : mg "int" = none) (b_range : mg "range" = none) (g__law_bent : FnD P w K mg base (clsM clss K) "_law_bent" s__law_bent ["draws", "date"] 2 M__law_bent) (g__law_date : FnD P w K mg base (clsM clss K) "_law_date" s__law_date ["draws"] 3 M__law_date) (g__law_draws : FnD P w K mg base (clsM clss K) "_law_draws" s__law_draws ["cell"] 1 M__law_draws) (g__law_length : FnD P w K mg base (clsM clss K) "_law_length" s__law_length ["year", "month"] 1 M__law_length) (g__law_told : FnD P w K mg base (clsM clss K) "_law_told" s__law_told ["date"] 4 M__law_told) (g__law_year : FnD P w K mg base (clsM clss K) "_law_year" s__law_year ["draws"] 2 M__law_year) (insOk : ∀ c C, (clsM clss K) c = some C → InsOk K C) (eqOk : ∀ c f C, oeq c = some f → (clsM clss K) c = some C → EqOk P w K mg base (clsM clss K) 1 C f) : FnD P w K mg base (clsM clss K) "law" s_law ["script"] 5 M_law := by
  refine fnD FD hm sc_law rfl fun cdv A outer s H E hr => ?_
  have scN := sc_law.nd
  have tkF : Takes (cxOf (L2.CX P w) P w K mg base ["script", "cell", "draws", "turn", "bent", "year", "told"] "law" (defScope s_law) a cdv A outer s H E) (fun c d _ H => E c d H) := takes_of rfl rfl rfl rfl
  have paF : PassesOwn (model P w) (cxOf (L2.CX P w) P w K mg base ["script", "cell", "draws", "turn", "bent", "year", "told"] "law" (defScope s_law) a cdv A outer s H E).A (cxOf (L2.CX P w) P w K mg base ["script", "cell", "draws", "turn", "bent", "year", "told"] "law" (defScope s_law) a cdv A outer s H E).env (cxOf (L2.CX P w) P w K mg base ["script", "cell", "draws", "turn", "bent", "year", "told"] "law" (defScope s_law) a cdv A outer s H E).xe := passes_of (X := (cxOf (L2.CX P w) P w K mg base ["script", "cell", "draws", "turn", "bent", "year", "told"] "law" (defScope s_law) a cdv A outer s H E)) rfl
  exact (qss_cons (qs_for paF rfl (src_list (qe_op (o_add false) (qe_sl (o_sl false) (qe_var 0 (pv 0)) qo_none (qo_some qe_int)) (qe_lst false (qa_cons qe_int qa_nil)))) (qg_name (pg_name (i := 1) scN rfl (by first | exact Or.inl rfl | exact Or.inr rfl))) (qss_cons (qs_set (i := 2) scN (qe_call g__law_draws (hr.mono (by decide)) tkF (qa_cons (qe_var 1 (pv 1)) qa_nil) (fun _ _ _ _ _ _ us hl => match us, hl with | [_], _ => rfl) (len_cons len_nil))) (qss_one (qs_for paF rfl (src_range1 b_range (qa_cons qe_int qa_nil)) (qg_name (pg_name (i := 3) scN rfl (by first | exact Or.inl rfl | exact Or.inr rfl))) (qss_cons (qs_set (i := 4) scN (qe_call g__law_bent (hr.mono (by decide)) tkF (qa_cons (qe_var 2 (pv 2)) (qa_cons (qe_call g__law_date (hr.mono (by decide)) tkF (qa_cons (qe_var 2 (pv 2)) qa_nil) (fun _ _ _ _ _ _ us hl => match us, hl with | [_], _ => rfl) (len_cons len_nil)) qa_nil)) (fun _ _ _ _ _ _ us hl => match us, hl with | [_, _], _ => rfl) (len_cons (len_cons len_nil)))) (qss_cons (qs_if (qt_cmp (o_neX insOk eqOk (hr.mono (by decide))) (qe_call g__law_told (hr.mono (by decide)) tkF (qa_cons (qe_var 4 (pv 4)) qa_nil) (fun _ _ _ _ _ _ us hl => match us, hl with | [_], _ => rfl) (len_cons len_nil)) (qe_lst false (qa_cons qe_str (qa_cons (qe_var 4 (pv 4)) (qa_cons qe_bl qa_nil))))) (qss_one (qs_ret qe_bl)) qss_nil) (qss_cons (qs_set (i := 5) scN (qe_call g__law_year (hr.mono (by decide)) tkF (qa_cons (qe_var 2 (pv 2)) qa_nil) (fun _ _ _ _ _ _ us hl => match us, hl with | [_], _ => rfl) (len_cons len_nil))) (qss_cons (qs_set (i := 6) scN (qe_call g__law_told (hr.mono (by decide)) tkF (qa_cons (qe_tup (qa_cons (qe_var 5 (pv 5)) (qa_cons qe_int (qa_cons qe_int qa_nil)))) qa_nil) (fun _ _ _ _ _ _ us hl => match us, hl with | [_], _ => rfl) (len_cons len_nil))) (qss_one (qs_if (qt_cmp (o_neX insOk eqOk (hr.mono (by decide))) (qe_ix o_ix (qe_var 6 (pv 6)) qe_int) (qe_ix o_ix (qe_lst false (qa_cons qe_str (qa_cons qe_str qa_nil))) (qe_callTy c_int b_int (by decide +kernel) (qa_cons (qe_cmp (o_eq hr.units) (qe_call g__law_length (hr.mono (by decide)) tkF (qa_cons (qe_var 5 (pv 5)) (qa_cons qe_int qa_nil)) (fun _ _ _ _ _ _ us hl => match us, hl with | [_, _], _ => rfl) (len_cons (len_cons len_nil))) qe_int) qa_nil)))) (qss_one (qs_ret qe_bl)) qss_nil)))))))))) (qss_one (qs_ret (qe_cmp (o_eqX insOk eqOk (hr.mono (by decide))) (qe_comp false [("year", 5)] rfl scN (src_list (qe_lst false (qa_cons qe_int (qa_cons qe_int (qa_cons qe_int (qa_cons qe_int (qa_cons qe_int (qa_cons (qe_un o_neg qe_int) (qa_cons (qe_un o_neg qe_int) (qa_cons (qe_un o_neg qe_int) (qa_cons (qe_un o_neg qe_int) qa_nil))))))))))) (blkOk_by (by first | rfl | kernel_rfl)) (by decide) (fun _ _ _ _ _ => (qg_name (pg_name (i := 5) scN rfl (by first | exact Or.inl rfl | exact Or.inr rfl)))) (fun _ _ _ _ _ => qts_nil) (fun _ _ _ _ _ => (qe_ix o_ix (qe_call g__law_told (hr.mono (by decide)) takes0 (qa_cons (qe_tup (qa_cons (qe_var 5 (pv 5)) (qa_cons qe_int (qa_cons qe_int qa_nil)))) qa_nil) (fun _ _ _ _ _ _ us hl => match us, hl with | [_], _ => rfl) (len_cons len_nil)) qe_int))) (qe_lst false (qa_cons qe_str (qa_cons qe_str (qa_cons qe_str (qa_cons qe_str (qa_cons qe_str (qa_cons qe_str (qa_cons qe_str (qa_cons qe_str (qa_cons qe_str qa_nil))))))))))))))
end K02
end

/-! K02aE -/
section
set_option Elab.async false
set_option linter.all false
set_option maxRecDepth 100000
set_option maxHeartbeats 0
namespace K02
open PySem L2 PM
def fns : List He.DefD := [⟨("Day", some "__init__"), "__init__", "Day.__init__", defArgs s_Day__init__, defBody s_Day__init__, defScope s_Day__init__, [], []⟩,
  ⟨("Day", some "__eq__"), "__eq__", "Day.__eq__", defArgs s_Day__eq__, defBody s_Day__eq__, defScope s_Day__eq__, [], []⟩,
  ⟨("is_leap", none), "is_leap", "is_leap", defArgs s_is_leap, defBody s_is_leap, defScope s_is_leap, [], []⟩,
  ⟨("last_of", none), "last_of", "last_of", defArgs s_last_of, defBody s_last_of, defScope s_last_of, [], []⟩,
  ⟨("NoDay", some "__init__"), "__init__", "NoDay.__init__", defArgs s_NoDay__init__, defBody s_NoDay__init__, defScope s_NoDay__init__, [], []⟩,
  ⟨("day_of", none), "day_of", "day_of", defArgs s_day_of, defBody s_day_of, defScope s_day_of, [], []⟩,
  ⟨("_law_draws", none), "_law_draws", "_law_draws", defArgs s__law_draws, defBody s__law_draws, defScope s__law_draws, [], []⟩,
  ⟨("_law_next", none), "_law_next", "_law_next", defArgs s__law_next, defBody s__law_next, defScope s__law_next, [], []⟩,
  ⟨("_law_length", none), "_law_length", "_law_length", defArgs s__law_length, defBody s__law_length, defScope s__law_length, [], []⟩,
  ⟨("_law_year", none), "_law_year", "_law_year", defArgs s__law_year, defBody s__law_year, defScope s__law_year, [], []⟩,
  ⟨("_law_date", none), "_law_date", "_law_date", defArgs s__law_date, defBody s__law_date, defScope s__law_date, [], []⟩,
  ⟨("_law_told", none), "_law_told", "_law_told", defArgs s__law_told, defBody s__law_told, defScope s__law_told, [], []⟩,
  ⟨("_law_bent", none), "_law_bent", "_law_bent", defArgs s__law_bent, defBody s__law_bent, defScope s__law_bent, [], []⟩,
  ⟨("law", none), "law", "law", defArgs s_law, defBody s_law, defScope s_law, [], []⟩]
def ex : Facts := [(He.Fa.free "ValueError").ok,
  (He.Fa.free "int").ok,
  (He.Fa.free "isinstance").ok,
  (He.Fa.free "max").ok,
  (He.Fa.free "range").ok,
  (He.Fa.free "tuple").ok,
  (He.Fa.glo "Day").ok,
  gcB "LENGTHS" d_LENGTHS,
  (He.Fa.glo "NoDay").ok,
  (He.Fa.glo "NoKind").ok,
  (He.Fa.glo "NoName").ok,
  (He.Fa.glo "NoQuestion").ok,
  (He.Fa.glo "NoTable").ok,
  (He.Fa.glo "NoTerm").ok,
  (He.Fa.glo "NoText").ok,
  (He.Fa.glo "Fault").ok,
  (He.Fa.glo "NoMoment").ok,
  (He.Fa.glo "NoPath").ok,
  xfsB exs ["parts"],
  xmB xT,
  excB exs,
  xiB xT,
  noatB clss ["number", "parts"],
  insB "Day",
  subB subT,
  (He.Fa.mkr "Day").ok,
  (He.Fa.glo "is_leap").ok,
  (He.Fa.glo "last_of").ok,
  oexB "NoDay",
  nofB "NoDay" ["parts"],
  (He.Fa.meth "NoDay" "__init__").ok,
  (He.Fa.glo "day_of").ok,
  (He.Fa.glo "_law_draws").ok,
  (He.Fa.glo "_law_next").ok,
  (He.Fa.glo "_law_length").ok,
  (He.Fa.glo "_law_year").ok,
  (He.Fa.glo "_law_date").ok,
  (He.Fa.glo "_law_told").ok,
  (He.Fa.glo "_law_bent").ok,
  eqB clss "Day",
  (He.Fa.glo "law").ok]
theorem all_ok {P : Program} {w : World} {K : PySem.W.Frag} {h : Heap} {mg : Str → Option Value} (X : K.In h) (G : h.Ns mainGlobals mg) (c : He.SaysD [] fns K) (hx : ∀ f ∈ ex, f K = true) (base : Heap) : FnD P w K mg base (clsM clss K) "law" s_law ["script"] 5 M_law := by
  have b_ValueError : mg "ValueError" = none := He.free_ok X G (x := "ValueError") (hx _ (List.mem_of_getElem? (show ex[0]? = some _ from rfl)))
  have b_int : mg "int" = none := He.free_ok X G (x := "int") (hx _ (List.mem_of_getElem? (show ex[1]? = some _ from rfl)))
  have b_isinstance : mg "isinstance" = none := He.free_ok X G (x := "isinstance") (hx _ (List.mem_of_getElem? (show ex[2]? = some _ from rfl)))
  have b_max : mg "max" = none := He.free_ok X G (x := "max") (hx _ (List.mem_of_getElem? (show ex[3]? = some _ from rfl)))
  have b_range : mg "range" = none := He.free_ok X G (x := "range") (hx _ (List.mem_of_getElem? (show ex[4]? = some _ from rfl)))
  have b_tuple : mg "tuple" = none := He.free_ok X G (x := "tuple") (hx _ (List.mem_of_getElem? (show ex[5]? = some _ from rfl)))
  have c_Day : GC K mg (clsM clss K) "Day" (.cls "Day") := gc_cls X G (by decide) (hx _ (List.mem_of_getElem? (show ex[6]? = some _ from rfl)))
  have c_LENGTHS : GC K mg (clsM clss K) "LENGTHS" d_LENGTHS := gc_ok X G (hx _ (List.mem_of_getElem? (show ex[7]? = some _ from rfl)))
  have c_NoDay : GC K mg (clsM clss K) "NoDay" (.xcl "NoDay") := gc_xcl (He.glo_ok X G (hx _ (List.mem_of_getElem? (show ex[8]? = some _ from rfl))))
  have c_NoKind : GC K mg (clsM clss K) "NoKind" (.xcl "NoKind") := gc_xcl (He.glo_ok X G (hx _ (List.mem_of_getElem? (show ex[9]? = some _ from rfl))))
  have c_NoName : GC K mg (clsM clss K) "NoName" (.xcl "NoName") := gc_xcl (He.glo_ok X G (hx _ (List.mem_of_getElem? (show ex[10]? = some _ from rfl))))
  have c_NoQuestion : GC K mg (clsM clss K) "NoQuestion" (.xcl "NoQuestion") := gc_xcl (He.glo_ok X G (hx _ (List.mem_of_getElem? (show ex[11]? = some _ from rfl))))
  have c_NoTable : GC K mg (clsM clss K) "NoTable" (.xcl "NoTable") := gc_xcl (He.glo_ok X G (hx _ (List.mem_of_getElem? (show ex[12]? = some _ from rfl))))
  have c_NoTerm : GC K mg (clsM clss K) "NoTerm" (.xcl "NoTerm") := gc_xcl (He.glo_ok X G (hx _ (List.mem_of_getElem? (show ex[13]? = some _ from rfl))))
  have c_NoText : GC K mg (clsM clss K) "NoText" (.xcl "NoText") := gc_xcl (He.glo_ok X G (hx _ (List.mem_of_getElem? (show ex[14]? = some _ from rfl))))
  have x_Fault : mg "Fault" = some (.ref (He.ga K "Fault")) := He.glo_ok X G (hx _ (List.mem_of_getElem? (show ex[15]? = some _ from rfl)))
  have x_NoDay : mg "NoDay" = some (.ref (He.ga K "NoDay")) := He.glo_ok X G (hx _ (List.mem_of_getElem? (show ex[8]? = some _ from rfl)))
  have x_NoKind : mg "NoKind" = some (.ref (He.ga K "NoKind")) := He.glo_ok X G (hx _ (List.mem_of_getElem? (show ex[9]? = some _ from rfl)))
  have x_NoMoment : mg "NoMoment" = some (.ref (He.ga K "NoMoment")) := He.glo_ok X G (hx _ (List.mem_of_getElem? (show ex[16]? = some _ from rfl)))
  have x_NoName : mg "NoName" = some (.ref (He.ga K "NoName")) := He.glo_ok X G (hx _ (List.mem_of_getElem? (show ex[10]? = some _ from rfl)))
  have x_NoPath : mg "NoPath" = some (.ref (He.ga K "NoPath")) := He.glo_ok X G (hx _ (List.mem_of_getElem? (show ex[17]? = some _ from rfl)))
  have x_NoQuestion : mg "NoQuestion" = some (.ref (He.ga K "NoQuestion")) := He.glo_ok X G (hx _ (List.mem_of_getElem? (show ex[11]? = some _ from rfl)))
  have x_NoTable : mg "NoTable" = some (.ref (He.ga K "NoTable")) := He.glo_ok X G (hx _ (List.mem_of_getElem? (show ex[12]? = some _ from rfl)))
  have x_NoTerm : mg "NoTerm" = some (.ref (He.ga K "NoTerm")) := He.glo_ok X G (hx _ (List.mem_of_getElem? (show ex[13]? = some _ from rfl)))
  have x_NoText : mg "NoText" = some (.ref (He.ga K "NoText")) := He.glo_ok X G (hx _ (List.mem_of_getElem? (show ex[14]? = some _ from rfl)))
  have fx_parts : XfOk K exs "parts" := xfsB_ok (fs := ["parts"]) (hx _ (List.mem_of_getElem? (show ex[18]? = some _ from rfl))) (by decide)
  have xmOk : XmOk K (subX xT) := xmB_ok (hx _ (List.mem_of_getElem? (show ex[19]? = some _ from rfl)))
  have excOk : ∀ c ∈ exs, ExcC K (He.ga K c) := excB_ok (hx _ (List.mem_of_getElem? (show ex[20]? = some _ from rfl)))
  have xiOk : XiOk K (subX xT) := xiB_ok (hx _ (List.mem_of_getElem? (show ex[21]? = some _ from rfl)))
  have f_number : FldOk K (clsM clss K) "number" := fldOk_of (cs := clss) (fs := ["number", "parts"]) (hx _ (List.mem_of_getElem? (show ex[22]? = some _ from rfl))) (by decide)
  have f_parts : FldOk K (clsM clss K) "parts" := fldOk_of (cs := clss) (fs := ["number", "parts"]) (hx _ (List.mem_of_getElem? (show ex[22]? = some _ from rfl))) (by decide)
  have insOk : ∀ c C, clsM clss K c = some C → InsOk K C := fun c C h => by
    obtain ⟨hc, rfl⟩ := clsM_of h
    revert hc
    simp only [clss, List.mem_cons, List.not_mem_nil, or_false]
    rintro rfl
    · exact insB_ok (hx _ (List.mem_of_getElem? (show ex[23]? = some _ from rfl)))
  have subOk : SubOk K (clsM clss K) sub := subB_ok (hx _ (List.mem_of_getElem? (show ex[24]? = some _ from rfl)))
  obtain ⟨fd_Day__init__, FD_Day__init__⟩ := c.def_ 0 rfl
  have FD_Day__init__ : FunD K "__init__" "Day.__init__" (defArgs s_Day__init__) (defBody s_Day__init__) (defScope s_Day__init__) [] [] (He.ma K (He.ga K "Day") "__init__") fd_Day__init__ := FD_Day__init__
  have G_Day__init__ := ok_Day__init__ (P := P) (w := w) (mg := mg) (base := base) FD_Day__init__ f_number
  have k_Day : ClsD P w K mg base (clsM clss K) "Day" "Day.__init__" s_Day__init__ ["self", "number"] 1 M_Day__init__ := ⟨_, _, fd_Day__init__, He.glo_ok X G (hx _ (List.mem_of_getElem? (show ex[6]? = some _ from rfl))), by unfold clsM; exact if_pos (by decide), He.mkr_ok (hx _ (List.mem_of_getElem? (show ex[25]? = some _ from rfl))), FD_Day__init__, G_Day__init__⟩
  obtain ⟨fd_Day__eq__, FD_Day__eq__⟩ := c.def_ 1 rfl
  have FD_Day__eq__ : FunD K "__eq__" "Day.__eq__" (defArgs s_Day__eq__) (defBody s_Day__eq__) (defScope s_Day__eq__) [] [] (He.ma K (He.ga K "Day") "__eq__") fd_Day__eq__ := FD_Day__eq__
  have G_Day__eq__ := ok_Day__eq__ (P := P) (w := w) (mg := mg) (base := base) FD_Day__eq__ b_isinstance c_Day excOk xiOk f_number insOk subOk
  obtain ⟨fd_is_leap, FD_is_leap⟩ := c.def_ 2 rfl
  have FD_is_leap : FunD K "is_leap" "is_leap" (defArgs s_is_leap) (defBody s_is_leap) (defScope s_is_leap) [] [] (He.ga K "is_leap") fd_is_leap := FD_is_leap
  have g_is_leap := ok_is_leap (P := P) (w := w) (mg := mg) (base := base) FD_is_leap (He.glo_ok X G (hx _ (List.mem_of_getElem? (show ex[26]? = some _ from rfl))))
  obtain ⟨fd_last_of, FD_last_of⟩ := c.def_ 3 rfl
  have FD_last_of : FunD K "last_of" "last_of" (defArgs s_last_of) (defBody s_last_of) (defScope s_last_of) [] [] (He.ga K "last_of") fd_last_of := FD_last_of
  have g_last_of := ok_last_of (P := P) (w := w) (mg := mg) (base := base) FD_last_of (He.glo_ok X G (hx _ (List.mem_of_getElem? (show ex[27]? = some _ from rfl)))) b_int c_LENGTHS g_is_leap
  obtain ⟨fd_NoDay__init__, FD_NoDay__init__⟩ := c.def_ 4 rfl
  have FD_NoDay__init__ : FunD K "__init__" "NoDay.__init__" (defArgs s_NoDay__init__) (defBody s_NoDay__init__) (defScope s_NoDay__init__) [] [] (He.ma K (He.ga K "NoDay") "__init__") fd_NoDay__init__ := FD_NoDay__init__
  have r_NoDay : XcD P w K mg base "NoDay" ["parts"] := xcD_of (hx _ (List.mem_of_getElem? (show ex[28]? = some _ from rfl))) (hx _ (List.mem_of_getElem? (show ex[29]? = some _ from rfl))) (hx _ (List.mem_of_getElem? (show ex[30]? = some _ from rfl))) (He.glo_ok X G (hx _ (List.mem_of_getElem? (show ex[8]? = some _ from rfl)))) (ok_NoDay__init__ FD_NoDay__init__) (FD_NoDay__init__.bindsN fun _ _ _ _ _ _ us hl => match us, hl with | [_, _], _ => rfl)
  obtain ⟨fd_day_of, FD_day_of⟩ := c.def_ 5 rfl
  have FD_day_of : FunD K "day_of" "day_of" (defArgs s_day_of) (defBody s_day_of) (defScope s_day_of) [] [] (He.ga K "day_of") fd_day_of := FD_day_of
  have g_day_of := ok_day_of (P := P) (w := w) (mg := mg) (base := base) FD_day_of (He.glo_ok X G (hx _ (List.mem_of_getElem? (show ex[31]? = some _ from rfl)))) b_int r_NoDay g_last_of k_Day
  obtain ⟨fd__law_draws, FD__law_draws⟩ := c.def_ 6 rfl
  have FD__law_draws : FunD K "_law_draws" "_law_draws" (defArgs s__law_draws) (defBody s__law_draws) (defScope s__law_draws) [] [] (He.ga K "_law_draws") fd__law_draws := FD__law_draws
  have g__law_draws := ok__law_draws (P := P) (w := w) (mg := mg) (base := base) FD__law_draws (He.glo_ok X G (hx _ (List.mem_of_getElem? (show ex[32]? = some _ from rfl))))
  obtain ⟨fd__law_next, FD__law_next⟩ := c.def_ 7 rfl
  have FD__law_next : FunD K "_law_next" "_law_next" (defArgs s__law_next) (defBody s__law_next) (defScope s__law_next) [] [] (He.ga K "_law_next") fd__law_next := FD__law_next
  have g__law_next := ok__law_next (P := P) (w := w) (mg := mg) (base := base) FD__law_next (He.glo_ok X G (hx _ (List.mem_of_getElem? (show ex[33]? = some _ from rfl))))
  obtain ⟨fd__law_length, FD__law_length⟩ := c.def_ 8 rfl
  have FD__law_length : FunD K "_law_length" "_law_length" (defArgs s__law_length) (defBody s__law_length) (defScope s__law_length) [] [] (He.ga K "_law_length") fd__law_length := FD__law_length
  have g__law_length := ok__law_length (P := P) (w := w) (mg := mg) (base := base) FD__law_length (He.glo_ok X G (hx _ (List.mem_of_getElem? (show ex[34]? = some _ from rfl)))) b_int
  obtain ⟨fd__law_year, FD__law_year⟩ := c.def_ 9 rfl
  have FD__law_year : FunD K "_law_year" "_law_year" (defArgs s__law_year) (defBody s__law_year) (defScope s__law_year) [] [] (He.ga K "_law_year") fd__law_year := FD__law_year
  have g__law_year := ok__law_year (P := P) (w := w) (mg := mg) (base := base) FD__law_year (He.glo_ok X G (hx _ (List.mem_of_getElem? (show ex[35]? = some _ from rfl)))) g__law_next
  obtain ⟨fd__law_date, FD__law_date⟩ := c.def_ 10 rfl
  have FD__law_date : FunD K "_law_date" "_law_date" (defArgs s__law_date) (defBody s__law_date) (defScope s__law_date) [] [] (He.ga K "_law_date") fd__law_date := FD__law_date
  have g__law_date := ok__law_date (P := P) (w := w) (mg := mg) (base := base) FD__law_date (He.glo_ok X G (hx _ (List.mem_of_getElem? (show ex[36]? = some _ from rfl)))) b_max g__law_length g__law_next g__law_year
  obtain ⟨fd__law_told, FD__law_told⟩ := c.def_ 11 rfl
  have FD__law_told : FunD K "_law_told" "_law_told" (defArgs s__law_told) (defBody s__law_told) (defScope s__law_told) [] [] (He.ga K "_law_told") fd__law_told := FD__law_told
  have g__law_told := ok__law_told (P := P) (w := w) (mg := mg) (base := base) FD__law_told (He.glo_ok X G (hx _ (List.mem_of_getElem? (show ex[37]? = some _ from rfl)))) b_ValueError b_isinstance b_tuple c_NoDay c_NoKind c_NoName c_NoQuestion c_NoTable c_NoTerm c_NoText x_Fault x_NoDay x_NoKind x_NoMoment x_NoName x_NoPath x_NoQuestion x_NoTable x_NoTerm x_NoText fx_parts xmOk excOk xiOk f_number f_parts g_day_of insOk subOk
  obtain ⟨fd__law_bent, FD__law_bent⟩ := c.def_ 12 rfl
  have FD__law_bent : FunD K "_law_bent" "_law_bent" (defArgs s__law_bent) (defBody s__law_bent) (defScope s__law_bent) [] [] (He.ga K "_law_bent") fd__law_bent := FD__law_bent
  have g__law_bent := ok__law_bent (P := P) (w := w) (mg := mg) (base := base) FD__law_bent (He.glo_ok X G (hx _ (List.mem_of_getElem? (show ex[38]? = some _ from rfl)))) b_int g__law_length g__law_next
  obtain ⟨fd_law, FD_law⟩ := c.def_ 13 rfl
  have FD_law : FunD K "law" "law" (defArgs s_law) (defBody s_law) (defScope s_law) [] [] (He.ga K "law") fd_law := FD_law
  have eqOk : ∀ c f C, oeq c = some f → clsM clss K c = some C → EqOk P w K mg base (clsM clss K) 1 C f := fun c f C h hC => by
    obtain ⟨_, rfl⟩ := clsM_of hC
    unfold oeq at h
    by_cases e : c = "Day"
    · rw [if_pos e] at h
      cases h
      subst e
      exact eqB_ok (hx _ (List.mem_of_getElem? (show ex[39]? = some _ from rfl))) (G_Day__eq__.mono (by decide)) (FD_Day__eq__.bindsN fun _ _ _ _ _ _ us hl => match us, hl with | [_, _], _ => rfl)
    rw [if_neg e] at h
    cases h
  have g_law := ok_law (P := P) (w := w) (mg := mg) (base := base) FD_law (He.glo_ok X G (hx _ (List.mem_of_getElem? (show ex[40]? = some _ from rfl)))) b_int b_range g__law_bent g__law_date g__law_draws g__law_length g__law_told g__law_year insOk eqOk
  exact g_law
theorem law_def {K : PySem.W.Frag} (c : He.SaysD [] fns K) : ∃ fd, FunD K "law" "law" (defArgs s_law) (defBody s_law) (defScope s_law) [] [] (He.ga K "law") fd := c.def_ 13 rfl
theorem law_glo {K : PySem.W.Frag} (hx : ∀ f ∈ ex, f K = true) : (He.Fa.glo "law").ok K = true := (hx _ (List.mem_of_getElem? (show ex[40]? = some _ from rfl)))
def loose : List Str := (["NoDay", "NoTerm", "NoName", "NoKind", "NoPath", "NoTable", "NoQuestion", "Fault", "NoText", "NoMoment", "LENGTHS", "Day", "is_leap", "last_of", "day_of", "_law_draws", "_law_next", "_law_length", "_law_year", "_law_date", "_law_told", "_law_bent"] : List Str)
abbrev R : PySem.W.OpenRow := PySem.W.OpenLaw.row PySem.Challenge.rw_plainford_k02_dates_that_are_none
abbrev hk : PySem.W.Hook := hookP 4 fns ex
abbrev ob : PySem.W.SharedT → He.AlD × Bool := obP 4 fns ex
theorem run (w : World) : HandSHeadRun.RunEq R (PySem.W.view R.prog [25]) hk ob 26000 loose w := by
  intro os
  kernel_rfl
theorem binds_law {K : PySem.W.Frag} {a : Addr} {fd : FuncData} (F : FunD K "law" "law" (defArgs s_law) (defBody s_law) (defScope s_law) [] [] a fd) (s : Shared) (v : Value) : BindsTo s fd ⟨[v], []⟩ [("script", v)] := FunD.bindsA (ps := ["script"]) F (fun _ _ _ _ _ _ us hl => match us, hl with | [_], _ => rfl) s [v] rfl
end K02
open PySem PySem.W PySem.Calls PyProof.Rows
theorem K02.done (hlaw : PM.lawOk K02.M_law) : PySem.Challenge.rw_plainford_k02_dates_that_are_none.Holds := by
  w_on; o_law
  refine HandSHeadRun.head_any (r := OpenLaw.row PySem.Challenge.rw_plainford_k02_dates_that_are_none) (q := view (OpenLaw.row PySem.Challenge.rw_plainford_k02_dates_that_are_none).prog [25]) (H := K02.hk) (ob := K02.ob) (M := 26000) (loose := K02.loose) (d := HandSHeadRun.topDef (OpenLaw.row PySem.Challenge.rw_plainford_k02_dates_that_are_none).prog 25) (kwd := []) PM.obP_eq
    (by kernel_rfl) (fun s => by kernel_rfl) K02.run (by kernel_rfl) (by kernel_rfl) (by kernel_rfl) (by rfl) (by first | assumption | decide +kernel) (by decide +kernel) ⟨rfl, rfl, rfl, rfl, rfl, by decide +kernel⟩ ?hw ?hc
  case hw => w_witness2
  case hc =>
    refine PM.walk_P (l := PySem.Challenge.rw_plainford_k02_dates_that_are_none) (n := 63) (k := 5) (x := "script") (CX := fun w => L2.CX (PySem.Challenge.rw_plainford_k02_dates_that_are_none).prog w) rfl (by decide) (by kernel_rfl) ⟨rfl, by decide, by decide⟩ ?F (fun w H s e s' z => by
      obtain ⟨_, _, _, _, _, _, _, _, _, _, _, _, z⟩ := z
      exact z)
    intro w mg fa h Y G hmg0
    obtain ⟨K, KX, c, hx⟩ := Y
    have hmg : mg ("law" : PySem.Str) = some (.ref fa) := by
      have e : (HandSHeadRun.topDef (OpenLaw.row PySem.Challenge.rw_plainford_k02_dates_that_are_none).prog 25).name = ("law" : PySem.Str) := by kernel_rfl
      rw [← e]
      exact hmg0
    obtain ⟨fd, FD⟩ := K02.law_def c
    have eg := hmg.symm.trans (He.glo_ok KX G (K02.law_glo hx))
    cases eg
    refine ⟨K, fd, PM.spM K (PM.clsM K02.clss K) 1 K02.M_law, KX, K02.binds_law FD, fun H a ns hl _ hS => PM.law_sp hlaw H a ns hl hS, fun base _ _ => ?_⟩
    obtain ⟨a, fd', h1, h2, h3⟩ := (K02.all_ok (P := (PySem.Challenge.rw_plainford_k02_dates_that_are_none).prog) (w := w) KX G c hx base).ex
    have ea := hmg.symm.trans h3
    cases ea
    obtain rfl := PM.funD_eq FD h1
    exact h2
end

/-! K02p -/
section
set_option Elab.async false
set_option linter.all false
set_option maxRecDepth 100000
set_option maxHeartbeats 4000000
namespace K02
open PySem L2 PM
open Civ (leap len mp cnt low)
theorem is_leap_eq (y : Int) (s : Sto) : M_is_leap [.int y] s = .ok (.bl (leap y)) s := by
  simp +decide only [fnM, mRet, mSet, mSeq, mIfS, mDrop, mAsg, mPar, mSetIx, mFor, mRetN, mNext, mAndV, mOrV, mNotV, mOp, mUn, mCall, mVar, mC, mNil, mCons, mTup, mLst, mkL, mIf, mTru, mTruB, mNot, mAnd, mOr, mChain, mSl, mPart, mNoPart, mKw, mMake, mMakeK, mRaise, mTry, handF, unsetR, setX, clrS, anyM, tgN, tgT, setsE,
  List.map_cons, List.map_nil, List.replicate, List.cons_append, List.nil_append, List.append_nil, List.getElem?_cons_zero, List.getElem?_cons_succ, List.set_cons_zero, List.set_cons_succ, List.length_cons, List.length_nil, bind_ok, bind_exc, toS_ok, toS_exc, res_ret, res_next, res_exc,
  add_ii, sub_ii, mod_ii, fdiv_ii, eq_ii, ne_ii, lt_ii, le_ii, gt_ii, ge_ii, neg_i, tru_b, tru_i, putIx, if_true, if_false, Bool.false_eq_true, reduceIte, M_is_leap, W_is_leap, leap]
  cases h : (y % 4 == 0) <;> cases h2 : (y % 100 == 0) <;> simp +decide only [fnM, mRet, mSet, mSeq, mIfS, mDrop, mAsg, mPar, mSetIx, mFor, mRetN, mNext, mAndV, mOrV, mNotV, mOp, mUn, mCall, mVar, mC, mNil, mCons, mTup, mLst, mkL, mIf, mTru, mTruB, mNot, mAnd, mOr, mChain, mSl, mPart, mNoPart, mKw, mMake, mMakeK, mRaise, mTry, handF, unsetR, setX, clrS, anyM, tgN, tgT, setsE,
  List.map_cons, List.map_nil, List.replicate, List.cons_append, List.nil_append, List.append_nil, List.getElem?_cons_zero, List.getElem?_cons_succ, List.set_cons_zero, List.set_cons_succ, List.length_cons, List.length_nil, bind_ok, bind_exc, toS_ok, toS_exc, res_ret, res_next, res_exc,
  add_ii, sub_ii, mod_ii, fdiv_ii, eq_ii, ne_ii, lt_ii, le_ii, gt_ii, ge_ii, neg_i, tru_b, tru_i, putIx, if_true, if_false, Bool.false_eq_true, reduceIte, Bool.not_true, Bool.not_false, Bool.true_and, Bool.false_and, Bool.true_or, Bool.false_or]
theorem twelve {m : Int} (h : 1 ≤ m ∧ m ≤ 12) : m = 1 ∨ m = 2 ∨ m = 3 ∨ m = 4 ∨ m = 5 ∨ m = 6 ∨ m = 7 ∨ m = 8 ∨ m = 9 ∨ m = 10 ∨ m = 11 ∨ m = 12 := by omega
theorem last_of_eq (y m : Int) (h : 1 ≤ m ∧ m ≤ 12) (s : Sto) : M_last_of [.int y, .int m] s = .ok (.int (len y m)) s := by
  cases e : leap y <;> rcases twelve h with rfl | rfl | rfl | rfl | rfl | rfl | rfl | rfl | rfl | rfl | rfl | rfl <;> (simp +decide only [fnM, mRet, mSet, mSeq, mIfS, mDrop, mAsg, mPar, mSetIx, mFor, mRetN, mNext, mAndV, mOrV, mNotV, mOp, mUn, mCall, mVar, mC, mNil, mCons, mTup, mLst, mkL, mIf, mTru, mTruB, mNot, mAnd, mOr, mChain, mSl, mPart, mNoPart, mKw, mMake, mMakeK, mRaise, mTry, handF, unsetR, setX, clrS, anyM, tgN, tgT, setsE,
  List.map_cons, List.map_nil, List.replicate, List.cons_append, List.nil_append, List.append_nil, List.getElem?_cons_zero, List.getElem?_cons_succ, List.set_cons_zero, List.set_cons_succ, List.length_cons, List.length_nil, bind_ok, bind_exc, toS_ok, toS_exc, res_ret, res_next, res_exc,
  add_ii, sub_ii, mod_ii, fdiv_ii, eq_ii, ne_ii, lt_ii, le_ii, gt_ii, ge_ii, neg_i, tru_b, tru_i, putIx, if_true, if_false, Bool.false_eq_true, reduceIte, M_last_of, W_last_of, is_leap_eq, int_b, len, e]) <;> rfl
theorem length_eq (y m : Int) (h : 1 ≤ m ∧ m ≤ 12) (s : Sto) : M__law_length [.int y, .int m] s = .ok (.int (len y m)) s := by
  have e : leap y = (y % 4 == 0 && (!(y % 100 == 0) || y % 400 == 0)) := rfl
  cases h1 : (y % 4 == 0) <;> cases h2 : (y % 100 == 0) <;> cases h3 : (y % 400 == 0) <;> rw [h1, h2, h3] at e <;> (simp +decide only [fnM, mRet, mSet, mSeq, mIfS, mDrop, mAsg, mPar, mSetIx, mFor, mRetN, mNext, mAndV, mOrV, mNotV, mOp, mUn, mCall, mVar, mC, mNil, mCons, mTup, mLst, mkL, mIf, mTru, mTruB, mNot, mAnd, mOr, mChain, mSl, mPart, mNoPart, mKw, mMake, mMakeK, mRaise, mTry, handF, unsetR, setX, clrS, anyM, tgN, tgT, setsE,
  List.map_cons, List.map_nil, List.replicate, List.cons_append, List.nil_append, List.append_nil, List.getElem?_cons_zero, List.getElem?_cons_succ, List.set_cons_zero, List.set_cons_succ, List.length_cons, List.length_nil, bind_ok, bind_exc, toS_ok, toS_exc, res_ret, res_next, res_exc,
  add_ii, sub_ii, mod_ii, fdiv_ii, eq_ii, ne_ii, lt_ii, le_ii, gt_ii, ge_ii, neg_i, tru_b, tru_i, putIx, if_true, if_false, Bool.false_eq_true, reduceIte, M__law_length, W__law_length, h1, h2, h3, Bool.not_true, Bool.not_false, int_b]) <;> rcases twelve h with rfl | rfl | rfl | rfl | rfl | rfl | rfl | rfl | rfl | rfl | rfl | rfl <;> simp only [len, e] <;> rfl
/-! the Day -/
def day (n : Int) : D := .ins "Day" [("number", .int n)]
theorem get_end {s : Sto} {x : MO} : (s ++ [x])[s.length]? = some x := by
  rw [List.getElem?_append_right (Nat.le_refl _)]; simp
theorem set_end {s : Sto} {x y : MO} : (s ++ [x]).set s.length y = s ++ [y] := by
  rw [List.set_append_right _ _ (Nat.le_refl _)]; simp
theorem mk_day (n : Int) (s : Sto) : mkObj "Day" M_Day__init__ [.int n] s = .ok (day n) s := by
  have e : M_Day__init__ [.ref s.length, .int n] (s ++ [.ins "Day" []]) = .ok .non (s ++ [.ins "Day" [("number", .int n)]]) := by
    simp +decide only [fnM, mRet, mSet, mSeq, mIfS, mDrop, mAsg, mPar, mSetIx, mFor, mRetN, mNext, mAndV, mOrV, mNotV, mOp, mUn, mCall, mVar, mC, mNil, mCons, mTup, mLst, mkL, mIf, mTru, mTruB, mNot, mAnd, mOr, mChain, mSl, mPart, mNoPart, mKw, mMake, mMakeK, mRaise, mTry, handF, unsetR, setX, clrS, anyM, tgN, tgT, setsE,
  List.map_cons, List.map_nil, List.replicate, List.cons_append, List.nil_append, List.append_nil, List.getElem?_cons_zero, List.getElem?_cons_succ, List.set_cons_zero, List.set_cons_succ, List.length_cons, List.length_nil, bind_ok, bind_exc, toS_ok, toS_exc, res_ret, res_next, res_exc,
  add_ii, sub_ii, mod_ii, fdiv_ii, eq_ii, ne_ii, lt_ii, le_ii, gt_ii, ge_ii, neg_i, tru_b, tru_i, putIx, if_true, if_false, Bool.false_eq_true, reduceIte, M_Day__init__, W_Day__init__, mSetFld, putFld, get_end, set_end, putF', D.pureB, List.length_nil]
  unfold mkObj
  rw [e]
  simp only [get_end, if_true, List.take_left]
  rfl
theorem fld_day (n : Int) (s : Sto) : fld "number" (day n) s = .ok (.int n) s := rfl
theorem day_eq (a b : Int) (s : Sto) : M_Day__eq__ [day a, day b] s = .ok (.bl (a == b)) s := by
  have e : isiX sub exs (subX xT) [day b, .cls "Day"] s = .ok (.bl true) s := rfl
  simp +decide only [fnM, mRet, mSet, mSeq, mIfS, mDrop, mAsg, mPar, mSetIx, mFor, mRetN, mNext, mAndV, mOrV, mNotV, mOp, mUn, mCall, mVar, mC, mNil, mCons, mTup, mLst, mkL, mIf, mTru, mTruB, mNot, mAnd, mOr, mChain, mSl, mPart, mNoPart, mKw, mMake, mMakeK, mRaise, mTry, handF, unsetR, setX, clrS, anyM, tgN, tgT, setsE,
  List.map_cons, List.map_nil, List.replicate, List.cons_append, List.nil_append, List.append_nil, List.getElem?_cons_zero, List.getElem?_cons_succ, List.set_cons_zero, List.set_cons_succ, List.length_cons, List.length_nil, bind_ok, bind_exc, toS_ok, toS_exc, res_ret, res_next, res_exc,
  add_ii, sub_ii, mod_ii, fdiv_ii, eq_ii, ne_ii, lt_ii, le_ii, gt_ii, ge_ii, neg_i, tru_b, tru_i, putIx, if_true, if_false, Bool.false_eq_true, reduceIte, M_Day__eq__, W_Day__eq__, e, fld_day]
theorem day_ne (a : Int) (d : D) (h : isiX sub exs (subX xT) [d, .cls "Day"] s = .ok (.bl false) s) : M_Day__eq__ [day a, d] s = .ok (.bl false) s := by
  simp +decide only [fnM, mRet, mSet, mSeq, mIfS, mDrop, mAsg, mPar, mSetIx, mFor, mRetN, mNext, mAndV, mOrV, mNotV, mOp, mUn, mCall, mVar, mC, mNil, mCons, mTup, mLst, mkL, mIf, mTru, mTruB, mNot, mAnd, mOr, mChain, mSl, mPart, mNoPart, mKw, mMake, mMakeK, mRaise, mTry, handF, unsetR, setX, clrS, anyM, tgN, tgT, setsE,
  List.map_cons, List.map_nil, List.replicate, List.cons_append, List.nil_append, List.append_nil, List.getElem?_cons_zero, List.getElem?_cons_succ, List.set_cons_zero, List.set_cons_succ, List.length_cons, List.length_nil, bind_ok, bind_exc, toS_ok, toS_exc, res_ret, res_next, res_exc,
  add_ii, sub_ii, mod_ii, fdiv_ii, eq_ii, ne_ii, lt_ii, le_ii, gt_ii, ge_ii, neg_i, tru_b, tru_i, putIx, if_true, if_false, Bool.false_eq_true, reduceIte, M_Day__eq__, W_Day__eq__, h]
theorem eqX_day (a b : Int) (s : Sto) : eqX oeq (day a) (day b) s = .ok (.bl (a == b)) s := by
  show ownEq id M_Day__eq__ (day a) (day b) s = _
  unfold ownEq
  rw [day_eq]
  rfl
theorem neX_day (a b : Int) (s : Sto) : neX oeq (day a) (day b) s = .ok (.bl (!(a == b))) s := by
  show ownEq not M_Day__eq__ (day a) (day b) s = _
  unfold ownEq
  rw [day_eq]
open Civ in
theorem day_of_eq (y m d : Int) (h : Civ.ok y m d) (s : Sto) : M_day_of [.int y, .int m, .int d] s = .ok (day (cnt y m d)) s := by
  obtain ⟨h1, h2, h3, h4⟩ := h
  have e1 : decide (1 ≤ m) = true := decide_eq_true h1
  have e2 : decide (m ≤ 12) = true := decide_eq_true h2
  have e3 : decide (1 ≤ d) = true := decide_eq_true h3
  have e4 : decide (d ≤ len y m) = true := decide_eq_true h4
  have el : (if decide (m < 3) = true then (1 : Int) else 0) = low m := by unfold low; by_cases c : m < 3 <;> simp [c]
  simp +decide only [fnM, mRet, mSet, mSeq, mIfS, mDrop, mAsg, mPar, mSetIx, mFor, mRetN, mNext, mAndV, mOrV, mNotV, mOp, mUn, mCall, mVar, mC, mNil, mCons, mTup, mLst, mkL, mIf, mTru, mTruB, mNot, mAnd, mOr, mChain, mSl, mPart, mNoPart, mKw, mMake, mMakeK, mRaise, mTry, handF, unsetR, setX, clrS, anyM, tgN, tgT, setsE,
  List.map_cons, List.map_nil, List.replicate, List.cons_append, List.nil_append, List.append_nil, List.getElem?_cons_zero, List.getElem?_cons_succ, List.set_cons_zero, List.set_cons_succ, List.length_cons, List.length_nil, bind_ok, bind_exc, toS_ok, toS_exc, res_ret, res_next, res_exc,
  add_ii, sub_ii, mod_ii, fdiv_ii, eq_ii, ne_ii, lt_ii, le_ii, gt_ii, ge_ii, neg_i, tru_b, tru_i, putIx, if_true, if_false, Bool.false_eq_true, reduceIte, M_day_of, W_day_of, last_of_eq y m ⟨h1, h2⟩, e1, e2, e3, e4, Bool.not_true, int_b, el, mul_l, mk_day]
  rfl
/-! the draws -/
theorem pow_ii {i j : Int} {s : Sto} (h : 0 ≤ j ∧ (Builtin.Int.intBits i : Int) * j ≤ 2 ^ 27) : powO (.int i) (.int j) s = .ok (.int (i ^ j.toNat)) s := if_pos h
theorem p1 (s : Sto) : powO (.int 10) (.int 60) s = .ok (.int (10 ^ 60)) s := pow_ii (by decide +kernel)
theorem p2 (s : Sto) : powO (.int (10 ^ 60)) (.int 60) s = .ok (.int ((10 ^ 60) ^ 60)) s := pow_ii (by decide +kernel)
theorem p3 (s : Sto) : powO (.int ((10 ^ 60) ^ 60)) (.int 4) s = .ok (.int (((10 ^ 60) ^ 60) ^ 4)) s := pow_ii (by decide +kernel)
theorem p4 (s : Sto) : powO (.int 10) (.int 18) s = .ok (.int (10 ^ 18)) s := pow_ii (by decide +kernel)
theorem p5 (s : Sto) : powO (.int 10) (.int 6) s = .ok (.int 1000000) s := pow_ii (by decide +kernel)
def dr (x k : Int) (b : Bool) : MO := .lst [.int x, .int k, .bl b]
theorem draws_eq (c : Int) (s : Sto) : ∃ x b, M__law_draws [.int c] s = .ok (.ref s.length) (s ++ [dr x 0 b]) ∧ 0 ≤ x := by
  have hp : (0 : Int) < ((10 ^ 60) ^ 60) ^ 4 := by decide +kernel
  refine ⟨c % ((10 ^ 60) ^ 60) ^ 4, decide ((10 : Int) ^ 18 ≤ c), ?_, Int.emod_nonneg _ (by decide +kernel)⟩
  simp only [M__law_draws, W__law_draws, fnM, mRet, mLst, mCons, mNil, mOp, mVar, mC, List.map_cons, List.map_nil, List.replicate, List.append_nil, List.getElem?_cons_zero, bind_ok, p1, p2, p3, p4, mod_ii hp, ge_ii, toS_ok, List.length_cons, List.length_nil]
  rfl
theorem next_eq {s : Sto} {n : Nat} {x k : Int} {b : Bool} (h : s[n]? = some (dr x k b)) (hx : 0 ≤ x) (h0 : 0 ≤ k) (h1 : k < 1000000) :
    ∃ v x', M__law_next [.ref n] s = .ok (.int v) (s.set n (dr x' (k + 1) b)) ∧ 0 ≤ x' ∧ 0 ≤ v ∧ v < 400000000 := by
  have h' : s[n]? = some (.lst [.int x, .int k, .bl b]) := h
  have g1 : ∀ {xs : List D}, (s.set n (.lst xs))[n]? = some (.lst xs) := fun {xs} => set_at h'
  have a0 : ixO (.ref n) (.int 1) s = .ok (.int k) s := ix_ref h' rfl
  have u0 : ∀ {v : D} {e : Slots}, v.pureB = true → putIx (.ref n) (.int 1) v e s = .next e (s.set n (.lst [.int x, v, .bl b])) := fun {v e} hv => put_ref (xs := [.int x, .int k, .bl b]) (j := 1) h' rfl hv
  have a1 : ∀ {v : D}, ixO (.ref n) (.int 1) (s.set n (.lst [.int x, v, .bl b])) = .ok v (s.set n (.lst [.int x, v, .bl b])) := fun {v} => ix_ref g1 rfl
  have a2 : ∀ {v : D}, ixO (.ref n) (.int 2) (s.set n (.lst [.int x, v, .bl b])) = .ok (.bl b) (s.set n (.lst [.int x, v, .bl b])) := fun {v} => ix_ref g1 rfl
  have a3 : ∀ {v : D}, ixO (.ref n) (.int 0) (s.set n (.lst [.int x, v, .bl b])) = .ok (.int x) (s.set n (.lst [.int x, v, .bl b])) := fun {v} => ix_ref g1 rfl
  have u1 : ∀ {v w : D} {e : Slots}, v.pureB = true → putIx (.ref n) (.int 0) v e (s.set n (.lst [.int x, w, .bl b])) = .next e (s.set n (.lst [v, w, .bl b])) := fun {v w e} hv => by
    have := put_ref (v := v) (e := e) (g1 (xs := [.int x, w, .bl b])) (show ixN 3 0 = some 0 from rfl) hv
    rw [set_set'] at this
    exact this
  have hp : ∀ i : Int, (D.int i).pureB = true := fun _ => rfl
  cases b with
  | true =>
    refine ⟨x % 1000000, x / 1000000, ?_, by omega, by omega, by omega⟩
    simp +decide only [M__law_next, W__law_next, fnM, mSeq, mSetIx, mIfS, mTru, mRet, mSet, mNext, mOp, mVar, mC, List.map_cons, List.map_nil, List.replicate, List.cons_append, List.nil_append, List.getElem?_cons_zero, List.getElem?_cons_succ, List.set_cons_zero, List.set_cons_succ, bind_ok, toS_ok, a0, add_ii, u0 (hp _), a1, a2, a3, tru_b, p5, mod_ii, fdiv_ii, u1 (hp _), if_true, res_ret]
    rfl
  | false =>
    have m2 : 0 ≤ ((x % 1000003 + (k + 1) * (k + 1) * 7919 + (k + 1)) * 48271) % 2147483629 ∧ ((x % 1000003 + (k + 1) * (k + 1) * 7919 + (k + 1)) * 48271) % 2147483629 < 2147483629 := by omega
    generalize hu : ((x % 1000003 + (k + 1) * (k + 1) * 7919 + (k + 1)) * 48271) % 2147483629 = u at m2
    have m3 : 0 ≤ (u * u) % 2147483587 ∧ (u * u) % 2147483587 < 2147483587 := by omega
    generalize hw : (u * u) % 2147483587 = w at m3
    refine ⟨w * (w + 2) % 2147483579 / 7, x, ?_, hx, by omega, by omega⟩
    simp +decide only [M__law_next, W__law_next, fnM, mSeq, mSetIx, mIfS, mTru, mRet, mSet, mNext, mOp, mVar, mC, List.map_cons, List.map_nil, List.replicate, List.cons_append, List.nil_append, List.getElem?_cons_zero, List.getElem?_cons_succ, List.set_cons_zero, List.set_cons_succ, bind_ok, toS_ok, a0, add_ii, u0 (hp _), a1, a2, a3, tru_b, mod_ii, fdiv_ii, if_false, Bool.false_eq_true, res_ret,
      mul_l (show -18446744073709551616 < k + 1 by omega) (show k + 1 < 18446744073709551616 by omega), mul_r (show (-18446744073709551616 : Int) < 7919 by decide) (show (7919 : Int) < 18446744073709551616 by decide), mul_r (show (-18446744073709551616 : Int) < 48271 by decide) (show (48271 : Int) < 18446744073709551616 by decide), hu,
      mul_l (show -18446744073709551616 < u by omega) (show u < 18446744073709551616 by omega), hw, mul_l (show -18446744073709551616 < w by omega) (show w < 18446744073709551616 by omega)]
    rfl
end K02
end

/-! K02q -/
section
set_option Elab.async false
set_option linter.all false
set_option maxRecDepth 100000
set_option maxHeartbeats 4000000
namespace K02
open PySem L2 PM
open Civ (leap len mp cnt low)
theorem len_ge (y m : Int) : 28 ≤ len y m ∧ len y m ≤ 31 := by
  unfold len; split
  · split <;> omega
  · split <;> omega
/-! year and date -/
theorem year_eq {s : Sto} {n : Nat} {x k : Int} {b : Bool} (h : s[n]? = some (dr x k b)) (hx : 0 ≤ x) (h0 : 0 ≤ k) (h1 : k < 1000000) :
    ∃ y x', M__law_year [.ref n] s = .ok (.int y) (s.set n (dr x' (k + 1) b)) ∧ 0 ≤ x' := by
  obtain ⟨v, x', e, hx', hv, hv2⟩ := next_eq h hx h0 h1
  have h5 : v % 5 = 0 ∨ v % 5 = 1 ∨ v % 5 = 2 ∨ v % 5 = 3 ∨ v % 5 = 4 := by omega
  obtain ⟨y, ey⟩ : ∃ y, atI [.int (1999 + v / 8 % 9), .int (0 - v / 8 % 9), .int (1600 + 100 * (v / 8 % 9)), .int (v / 8 % 27000), .int (0 - v / 8 % 27000)] (v % 5) = some (D.int y) := by
    rcases h5 with h5 | h5 | h5 | h5 | h5 <;> rw [h5] <;> exact ⟨_, rfl⟩
  exact ⟨y, x', by simp +decide only [fnM, mRet, mSet, mSeq, mIfS, mDrop, mAsg, mPar, mSetIx, mFor, mRetN, mNext, mAndV, mOrV, mNotV, mOp, mUn, mCall, mVar, mC, mNil, mCons, mTup, mLst, mkL, mIf, mTru, mTruB, mNot, mAnd, mOr, mChain, mSl, mPart, mNoPart, mKw, mMake, mMakeK, mRaise, mTry, handF, unsetR, setX, clrS, anyM, tgN, tgT, setsE,
  List.map_cons, List.map_nil, List.replicate, List.cons_append, List.nil_append, List.append_nil, List.getElem?_cons_zero, List.getElem?_cons_succ, List.set_cons_zero, List.set_cons_succ, List.length_cons, List.length_nil, bind_ok, bind_exc, toS_ok, toS_exc, res_ret, res_next, res_exc,
  add_ii, sub_ii, mod_ii, fdiv_ii, eq_ii, ne_ii, lt_ii, le_ii, gt_ii, ge_ii, neg_i, tru_b, tru_i, putIx, if_true, if_false, Bool.false_eq_true, reduceIte, M__law_year, W__law_year, e, ix_lst ey, mul_l], hx'⟩
theorem date_eq {s : Sto} {n : Nat} {x k : Int} {b : Bool} (h : s[n]? = some (dr x k b)) (hx : 0 ≤ x) (h0 : 0 ≤ k) (h1 : k < 999999) :
    ∃ y m d x', M__law_date [.ref n] s = .ok (.tup [.int y, .int m, .int d]) (s.set n (dr x' (k + 2) b)) ∧ 0 ≤ x' ∧ Civ.ok y m d := by
  obtain ⟨y, x1, e1, hx1⟩ := year_eq h hx h0 (by omega)
  obtain ⟨v, x2, e2, hx2, hv, hv2⟩ := next_eq (set_at (x := dr x1 (k + 1) b) h) hx1 (by omega) (by omega)
  rw [set_set', show k + 1 + 1 = k + 2 by omega] at e2
  obtain ⟨j, hj⟩ : ∃ j, maxI 0 (v % 8 - 4) = j := ⟨_, rfl⟩
  have hj4 : j = 0 ∨ j = 1 ∨ j = 2 ∨ j = 3 := by unfold maxI at hj; split at hj <;> omega
  obtain ⟨j2, hj2⟩ : ∃ j, maxI 0 (v / 2688 % 5 - 2) = j := ⟨_, rfl⟩
  have hj24 : j2 = 0 ∨ j2 = 1 ∨ j2 = 2 := by unfold maxI at hj2; split at hj2 <;> omega
  have hm : ∃ m, 1 ≤ m ∧ m ≤ 12 ∧ atI [.int (1 + v / 8 % 12), .int 2, .int 3, .int 12] j = some (D.int m) := by
    rcases hj4 with rfl | rfl | rfl | rfl
    · exact ⟨1 + v / 8 % 12, by omega, by omega, rfl⟩
    · exact ⟨2, by omega, by omega, rfl⟩
    · exact ⟨3, by omega, by omega, rfl⟩
    · exact ⟨12, by omega, by omega, rfl⟩
  obtain ⟨m, m1, m2, em⟩ := hm
  have lg := len_ge y m
  have hd : ∃ d, 1 ≤ d ∧ d ≤ len y m ∧ atI [.int (1 + v / 96 % len y m), .int 1, .int (len y m)] j2 = some (D.int d) := by
    rcases hj24 with rfl | rfl | rfl
    · have a1 := Int.emod_nonneg (v / 96) (show len y m ≠ 0 by omega)
      have a2 := Int.emod_lt_of_pos (v / 96) (show 0 < len y m by omega)
      exact ⟨1 + v / 96 % len y m, by omega, by omega, rfl⟩
    · exact ⟨1, by omega, by omega, rfl⟩
    · exact ⟨len y m, by omega, by omega, rfl⟩
  obtain ⟨d, d1, d2, ed⟩ := hd
  refine ⟨y, m, d, x2, ?_, hx2, m1, m2, d1, d2⟩
  have hmax : ∀ (i j : Int) (s : Sto), int2O maxI [.int i, .int j] s = .ok (.int (maxI i j)) s := fun _ _ _ => rfl
  simp +decide only [fnM, mRet, mSet, mSeq, mIfS, mDrop, mAsg, mPar, mSetIx, mFor, mRetN, mNext, mAndV, mOrV, mNotV, mOp, mUn, mCall, mVar, mC, mNil, mCons, mTup, mLst, mkL, mIf, mTru, mTruB, mNot, mAnd, mOr, mChain, mSl, mPart, mNoPart, mKw, mMake, mMakeK, mRaise, mTry, handF, unsetR, setX, clrS, anyM, tgN, tgT, setsE,
  List.map_cons, List.map_nil, List.replicate, List.cons_append, List.nil_append, List.append_nil, List.getElem?_cons_zero, List.getElem?_cons_succ, List.set_cons_zero, List.set_cons_succ, List.length_cons, List.length_nil, bind_ok, bind_exc, toS_ok, toS_exc, res_ret, res_next, res_exc,
  add_ii, sub_ii, mod_ii, fdiv_ii, eq_ii, ne_ii, lt_ii, le_ii, gt_ii, ge_ii, neg_i, tru_b, tru_i, putIx, if_true, if_false, Bool.false_eq_true, reduceIte, M__law_date, W__law_date, e1, e2, hmax, hj, hj2, ix_lst em, length_eq y m ⟨m1, m2⟩, mod_ii (show 0 < len y m by omega), ix_lst ed]

def nd (y m d : Int) : Exn := ⟨"NoDay", [("parts", .tup [.int y, .int m, .int d])]⟩
theorem day_bad (y m d : Int) (h : ¬Civ.ok y m d) (s : Sto) : M_day_of [.int y, .int m, .int d] s = .exc (nd y m d) s := by
  by_cases h1 : 1 ≤ m
  · by_cases h2 : m ≤ 12
    · have e1 : decide (1 ≤ m) = true := decide_eq_true h1
      have e2 : decide (m ≤ 12) = true := decide_eq_true h2
      by_cases h3 : 1 ≤ d
      · have h4 : ¬d ≤ len y m := fun z => h ⟨h1, h2, h3, z⟩
        have e3 : decide (1 ≤ d) = true := decide_eq_true h3
        have e4 : decide (d ≤ len y m) = false := decide_eq_false h4
        simp +decide only [fnM, mRet, mSet, mSeq, mIfS, mDrop, mAsg, mPar, mSetIx, mFor, mRetN, mNext, mAndV, mOrV, mNotV, mOp, mUn, mCall, mVar, mC, mNil, mCons, mTup, mLst, mkL, mIf, mTru, mTruB, mNot, mAnd, mOr, mChain, mSl, mPart, mNoPart, mKw, mMake, mMakeK, mRaise, mTry, handF, unsetR, setX, clrS, anyM, tgN, tgT, setsE,
  List.map_cons, List.map_nil, List.replicate, List.cons_append, List.nil_append, List.append_nil, List.getElem?_cons_zero, List.getElem?_cons_succ, List.set_cons_zero, List.set_cons_succ, List.length_cons, List.length_nil, bind_ok, bind_exc, toS_ok, toS_exc, res_ret, res_next, res_exc,
  add_ii, sub_ii, mod_ii, fdiv_ii, eq_ii, ne_ii, lt_ii, le_ii, gt_ii, ge_ii, neg_i, tru_b, tru_i, putIx, if_true, if_false, Bool.false_eq_true, reduceIte, M_day_of, W_day_of, last_of_eq y m ⟨h1, h2⟩, e1, e2, e3, e4, Bool.not_true, Bool.not_false]
        rfl
      · have e3 : decide (1 ≤ d) = false := decide_eq_false h3
        simp +decide only [fnM, mRet, mSet, mSeq, mIfS, mDrop, mAsg, mPar, mSetIx, mFor, mRetN, mNext, mAndV, mOrV, mNotV, mOp, mUn, mCall, mVar, mC, mNil, mCons, mTup, mLst, mkL, mIf, mTru, mTruB, mNot, mAnd, mOr, mChain, mSl, mPart, mNoPart, mKw, mMake, mMakeK, mRaise, mTry, handF, unsetR, setX, clrS, anyM, tgN, tgT, setsE,
  List.map_cons, List.map_nil, List.replicate, List.cons_append, List.nil_append, List.append_nil, List.getElem?_cons_zero, List.getElem?_cons_succ, List.set_cons_zero, List.set_cons_succ, List.length_cons, List.length_nil, bind_ok, bind_exc, toS_ok, toS_exc, res_ret, res_next, res_exc,
  add_ii, sub_ii, mod_ii, fdiv_ii, eq_ii, ne_ii, lt_ii, le_ii, gt_ii, ge_ii, neg_i, tru_b, tru_i, putIx, if_true, if_false, Bool.false_eq_true, reduceIte, M_day_of, W_day_of, last_of_eq y m ⟨h1, h2⟩, e1, e2, e3, Bool.not_true, Bool.not_false]
        rfl
    · have e1 : decide (1 ≤ m) = true := decide_eq_true h1
      have e2 : decide (m ≤ 12) = false := decide_eq_false h2
      simp +decide only [fnM, mRet, mSet, mSeq, mIfS, mDrop, mAsg, mPar, mSetIx, mFor, mRetN, mNext, mAndV, mOrV, mNotV, mOp, mUn, mCall, mVar, mC, mNil, mCons, mTup, mLst, mkL, mIf, mTru, mTruB, mNot, mAnd, mOr, mChain, mSl, mPart, mNoPart, mKw, mMake, mMakeK, mRaise, mTry, handF, unsetR, setX, clrS, anyM, tgN, tgT, setsE,
  List.map_cons, List.map_nil, List.replicate, List.cons_append, List.nil_append, List.append_nil, List.getElem?_cons_zero, List.getElem?_cons_succ, List.set_cons_zero, List.set_cons_succ, List.length_cons, List.length_nil, bind_ok, bind_exc, toS_ok, toS_exc, res_ret, res_next, res_exc,
  add_ii, sub_ii, mod_ii, fdiv_ii, eq_ii, ne_ii, lt_ii, le_ii, gt_ii, ge_ii, neg_i, tru_b, tru_i, putIx, if_true, if_false, Bool.false_eq_true, reduceIte, M_day_of, W_day_of, e1, e2, Bool.not_true, Bool.not_false]
      rfl
  · have e1 : decide (1 ≤ m) = false := decide_eq_false h1
    simp +decide only [fnM, mRet, mSet, mSeq, mIfS, mDrop, mAsg, mPar, mSetIx, mFor, mRetN, mNext, mAndV, mOrV, mNotV, mOp, mUn, mCall, mVar, mC, mNil, mCons, mTup, mLst, mkL, mIf, mTru, mTruB, mNot, mAnd, mOr, mChain, mSl, mPart, mNoPart, mKw, mMake, mMakeK, mRaise, mTry, handF, unsetR, setX, clrS, anyM, tgN, tgT, setsE,
  List.map_cons, List.map_nil, List.replicate, List.cons_append, List.nil_append, List.append_nil, List.getElem?_cons_zero, List.getElem?_cons_succ, List.set_cons_zero, List.set_cons_succ, List.length_cons, List.length_nil, bind_ok, bind_exc, toS_ok, toS_exc, res_ret, res_next, res_exc,
  add_ii, sub_ii, mod_ii, fdiv_ii, eq_ii, ne_ii, lt_ii, le_ii, gt_ii, ge_ii, neg_i, tru_b, tru_i, putIx, if_true, if_false, Bool.false_eq_true, reduceIte, M_day_of, W_day_of, e1, Bool.not_true, Bool.not_false]
    rfl
theorem b0 (a b c : Int) (s : Sto) : ixO (.tup [.int a, .int b, .int c]) (.int 0) s = .ok (.int a) s := rfl
theorem b1 (a b c : Int) (s : Sto) : ixO (.tup [.int a, .int b, .int c]) (.int 1) s = .ok (.int b) s := rfl
theorem b2 (a b c : Int) (s : Sto) : ixO (.tup [.int a, .int b, .int c]) (.int 2) s = .ok (.int c) s := rfl
theorem told_good {y m d : Int} (h : Civ.ok y m d) (s : Sto) : M__law_told [.tup [.int y, .int m, .int d]] s = .ok (.lst [.str "told", .int (cnt y m d)]) s := by
  have e : isNO .non .non s = .ok (.bl true) s := rfl
  simp +decide only [fnM, mRet, mSet, mSeq, mIfS, mDrop, mAsg, mPar, mSetIx, mFor, mRetN, mNext, mAndV, mOrV, mNotV, mOp, mUn, mCall, mVar, mC, mNil, mCons, mTup, mLst, mkL, mIf, mTru, mTruB, mNot, mAnd, mOr, mChain, mSl, mPart, mNoPart, mKw, mMake, mMakeK, mRaise, mTry, handF, unsetR, setX, clrS, anyM, tgN, tgT, setsE,
  List.map_cons, List.map_nil, List.replicate, List.cons_append, List.nil_append, List.append_nil, List.getElem?_cons_zero, List.getElem?_cons_succ, List.set_cons_zero, List.set_cons_succ, List.length_cons, List.length_nil, bind_ok, bind_exc, toS_ok, toS_exc, res_ret, res_next, res_exc,
  add_ii, sub_ii, mod_ii, fdiv_ii, eq_ii, ne_ii, lt_ii, le_ii, gt_ii, ge_ii, neg_i, tru_b, tru_i, putIx, if_true, if_false, Bool.false_eq_true, reduceIte, M__law_told, W__law_told, b0, b1, b2, day_of_eq y m d h, e, fld_day]
theorem told_bad {y m d : Int} (h : ¬Civ.ok y m d) (s : Sto) : M__law_told [.tup [.int y, .int m, .int d]] s = .ok (.lst [.str "none", .tup [.int y, .int m, .int d], .bl true]) s := by
  unfold M__law_told W__law_told
  simp +decide only [fnM, mRet, mSet, mSeq, mIfS, mDrop, mAsg, mPar, mSetIx, mFor, mRetN, mNext, mAndV, mOrV, mNotV, mOp, mUn, mCall, mVar, mC, mNil, mCons, mTup, mLst, mkL, mIf, mTru, mTruB, mNot, mAnd, mOr, mChain, mSl, mPart, mNoPart, mKw, mMake, mMakeK, mRaise, mTry, handF, unsetR, setX, clrS, anyM, tgN, tgT, setsE,
  List.map_cons, List.map_nil, List.replicate, List.cons_append, List.nil_append, List.append_nil, List.getElem?_cons_zero, List.getElem?_cons_succ, List.set_cons_zero, List.set_cons_succ, List.length_cons, List.length_nil, bind_ok, bind_exc, toS_ok, toS_exc, res_ret, res_next, res_exc,
  add_ii, sub_ii, mod_ii, fdiv_ii, eq_ii, ne_ii, lt_ii, le_ii, gt_ii, ge_ii, neg_i, tru_b, tru_i, putIx, if_true, if_false, Bool.false_eq_true, reduceIte, b0, b1, b2, day_bad y m d h]
  rfl
end K02
end

/-! K02r -/
section
set_option Elab.async false
set_option linter.all false
set_option maxRecDepth 100000
set_option maxHeartbeats 4000000
namespace K02
open PySem L2 PM
open Civ (leap len mp cnt low)
/-- a date that is none -/
theorem bent_eq {s : Sto} {n : Nat} {x k : Int} {b : Bool} (h : s[n]? = some (dr x k b)) (hx : 0 ≤ x) (h0 : 0 ≤ k) (h1 : k < 1000000) {y m d : Int} (ok : Civ.ok y m d) :
    ∃ y' m' d' x', M__law_bent [.ref n, .tup [.int y, .int m, .int d]] s = .ok (.tup [.int y', .int m', .int d']) (s.set n (dr x' (k + 1) b)) ∧ 0 ≤ x' ∧ ¬Civ.ok y' m' d' := by
  obtain ⟨v, x', e, hx', hv, hv2⟩ := next_eq h hx h0 h1
  have hf : ∃ f, 1 ≤ f ∧ atI [.int 1, .int 1, .int 2, .int 1000000] (v / 8 % 4) = some (D.int f) := by
    have h4 : v / 8 % 4 = 0 ∨ v / 8 % 4 = 1 ∨ v / 8 % 4 = 2 ∨ v / 8 % 4 = 3 := by omega
    rcases h4 with h | h | h | h <;> rw [h]
    · exact ⟨1, by omega, rfl⟩
    · exact ⟨1, by omega, rfl⟩
    · exact ⟨2, by omega, rfl⟩
    · exact ⟨1000000, by omega, rfl⟩
  obtain ⟨f, hf, ef⟩ := hf
  have h2 : v / 64 % 2 = 0 ∨ v / 64 % 2 = 1 := by omega
  have up : ∃ m', 12 < m' ∧ atI [.int 13, .int (12 + f)] (v / 64 % 2) = some (D.int m') := by
    rcases h2 with h | h <;> rw [h]
    · exact ⟨13, by omega, rfl⟩
    · exact ⟨12 + f, by omega, rfl⟩
  have dn : ∃ m', m' < 1 ∧ atI [.int 0, .int (1 - f)] (v / 64 % 2) = some (D.int m') := by
    rcases h2 with h | h <;> rw [h]
    · exact ⟨0, by omega, rfl⟩
    · exact ⟨1 - f, by omega, rfl⟩
  obtain ⟨mu, hmu, eu⟩ := up
  obtain ⟨md, hmd, ed⟩ := dn
  by_cases c1 : v % 8 < 2
  · have c1' : decide (v % 8 < 2) = true := decide_eq_true c1
    refine ⟨y, mu, d, x', ?_, hx', fun z => by have := z.2.1; omega⟩
    simp +decide only [fnM, mRet, mSet, mSeq, mIfS, mDrop, mAsg, mPar, mSetIx, mFor, mRetN, mNext, mAndV, mOrV, mNotV, mOp, mUn, mCall, mVar, mC, mNil, mCons, mTup, mLst, mkL, mIf, mTru, mTruB, mNot, mAnd, mOr, mChain, mSl, mPart, mNoPart, mKw, mMake, mMakeK, mRaise, mTry, handF, unsetR, setX, clrS, anyM, tgN, tgT, setsE,
  List.map_cons, List.map_nil, List.replicate, List.cons_append, List.nil_append, List.append_nil, List.getElem?_cons_zero, List.getElem?_cons_succ, List.set_cons_zero, List.set_cons_succ, List.length_cons, List.length_nil, bind_ok, bind_exc, toS_ok, toS_exc, res_ret, res_next, res_exc,
  add_ii, sub_ii, mod_ii, fdiv_ii, eq_ii, ne_ii, lt_ii, le_ii, gt_ii, ge_ii, neg_i, tru_b, tru_i, putIx, if_true, if_false, Bool.false_eq_true, reduceIte, M__law_bent, W__law_bent, e, p5, ix_lst ef, ix_lst eu, c1']
  · have c1' : decide (v % 8 < 2) = false := decide_eq_false c1
    by_cases c2 : v % 8 < 4
    · have c2' : decide (v % 8 < 4) = true := decide_eq_true c2
      refine ⟨y, md, d, x', ?_, hx', fun z => by have := z.1; omega⟩
      simp +decide only [fnM, mRet, mSet, mSeq, mIfS, mDrop, mAsg, mPar, mSetIx, mFor, mRetN, mNext, mAndV, mOrV, mNotV, mOp, mUn, mCall, mVar, mC, mNil, mCons, mTup, mLst, mkL, mIf, mTru, mTruB, mNot, mAnd, mOr, mChain, mSl, mPart, mNoPart, mKw, mMake, mMakeK, mRaise, mTry, handF, unsetR, setX, clrS, anyM, tgN, tgT, setsE,
  List.map_cons, List.map_nil, List.replicate, List.cons_append, List.nil_append, List.append_nil, List.getElem?_cons_zero, List.getElem?_cons_succ, List.set_cons_zero, List.set_cons_succ, List.length_cons, List.length_nil, bind_ok, bind_exc, toS_ok, toS_exc, res_ret, res_next, res_exc,
  add_ii, sub_ii, mod_ii, fdiv_ii, eq_ii, ne_ii, lt_ii, le_ii, gt_ii, ge_ii, neg_i, tru_b, tru_i, putIx, if_true, if_false, Bool.false_eq_true, reduceIte, M__law_bent, W__law_bent, e, p5, ix_lst ef, ix_lst ed, c1', c2']
    · have c2' : decide (v % 8 < 4) = false := decide_eq_false c2
      by_cases c3 : v % 8 < 6
      · have c3' : decide (v % 8 < 6) = true := decide_eq_true c3
        refine ⟨y, m, len y m + f, x', ?_, hx', fun z => by have := z.2.2.2; omega⟩
        simp +decide only [fnM, mRet, mSet, mSeq, mIfS, mDrop, mAsg, mPar, mSetIx, mFor, mRetN, mNext, mAndV, mOrV, mNotV, mOp, mUn, mCall, mVar, mC, mNil, mCons, mTup, mLst, mkL, mIf, mTru, mTruB, mNot, mAnd, mOr, mChain, mSl, mPart, mNoPart, mKw, mMake, mMakeK, mRaise, mTry, handF, unsetR, setX, clrS, anyM, tgN, tgT, setsE,
  List.map_cons, List.map_nil, List.replicate, List.cons_append, List.nil_append, List.append_nil, List.getElem?_cons_zero, List.getElem?_cons_succ, List.set_cons_zero, List.set_cons_succ, List.length_cons, List.length_nil, bind_ok, bind_exc, toS_ok, toS_exc, res_ret, res_next, res_exc,
  add_ii, sub_ii, mod_ii, fdiv_ii, eq_ii, ne_ii, lt_ii, le_ii, gt_ii, ge_ii, neg_i, tru_b, tru_i, putIx, if_true, if_false, Bool.false_eq_true, reduceIte, M__law_bent, W__law_bent, e, p5, ix_lst ef, length_eq y m ⟨ok.1, ok.2.1⟩, c1', c2', c3']
      · have c3' : decide (v % 8 < 6) = false := decide_eq_false c3
        have hm : ∃ m', atI [.int m, .int 13] (if (v % 8 == 7) = true then 1 else 0) = some (D.int m') := by
          cases (v % 8 == 7) with
          | true => exact ⟨13, rfl⟩
          | false => exact ⟨m, rfl⟩
        obtain ⟨m', em⟩ := hm
        refine ⟨y, m', md, x', ?_, hx', fun z => by have := z.2.2.1; omega⟩
        unfold M__law_bent W__law_bent
        simp +decide only [fnM, mRet, mSet, mSeq, mIfS, mDrop, mAsg, mPar, mSetIx, mFor, mRetN, mNext, mAndV, mOrV, mNotV, mOp, mUn, mCall, mVar, mC, mNil, mCons, mTup, mLst, mkL, mIf, mTru, mTruB, mNot, mAnd, mOr, mChain, mSl, mPart, mNoPart, mKw, mMake, mMakeK, mRaise, mTry, handF, unsetR, setX, clrS, anyM, tgN, tgT, setsE,
  List.map_cons, List.map_nil, List.replicate, List.cons_append, List.nil_append, List.append_nil, List.getElem?_cons_zero, List.getElem?_cons_succ, List.set_cons_zero, List.set_cons_succ, List.length_cons, List.length_nil, bind_ok, bind_exc, toS_ok, toS_exc, res_ret, res_next, res_exc,
  add_ii, sub_ii, mod_ii, fdiv_ii, eq_ii, ne_ii, lt_ii, le_ii, gt_ii, ge_ii, neg_i, tru_b, tru_i, putIx, if_true, if_false, Bool.false_eq_true, reduceIte, e, p5, ix_lst ef, c1', c2', c3', int_b, ix_lst em, ix_lst ed]
theorem self_eq (y m d : Int) (s : Sto) : neX oeq (.lst [.str "none", .tup [.int y, .int m, .int d], .bl true]) (.lst [.str "none", .tup [.int y, .int m, .int d], .bl true]) s = .ok (.bl false) s := by
  have h1 : PyData.canLay0 (.str "none") = true := by decide +kernel
  have h : SeqAt.shaped (.list [.str "none", .tuple [.int y, .int m, .int d], .bool true]) = true := by
    have h2 : PyData.canLay0 (.list [.str "none", .tuple [.int y, .int m, .int d], .bool true]) = true := by
      show (PyData.canLay0 (.str "none") && _) = true
      rw [h1]; rfl
    unfold SeqAt.shaped
    rw [h2]; rfl
  exact (eqD_self (d := .lst [.str "none", .tup [.int y, .int m, .int d], .bl true]) (k := not) s rfl h : _)
theorem tt (s : Sto) : neX oeq (.str "told") (.str "told") s = .ok (.bl false) s := eqD_self (d := .str "told") (p := .str "told") (k := not) s rfl (by decide +kernel)
theorem nn (s : Sto) : neX oeq (.str "none") (.str "none") s = .ok (.bl false) s := eqD_self (d := .str "none") (p := .str "none") (k := not) s rfl (by decide +kernel)
theorem ok229 (y : Int) : Civ.ok y 2 29 ↔ len y 2 = 29 := by
  have h : len y 2 = 28 ∨ len y 2 = 29 := by unfold len; simp only [if_true]; split <;> omega
  unfold Civ.ok
  constructor
  · intro ⟨_, _, _, h4⟩; omega
  · intro h; exact ⟨by omega, by omega, by omega, by omega⟩
theorem first_right (y : Int) (s : Sto) : ∃ t : D, M__law_told [.tup [.int y, .int 2, .int 29]] s = .ok t s ∧ ∃ z : D, ixO t (.int 0) s = .ok z s ∧ (ixO (.lst [.str "none", .str "told"]) (.int (if (len y 2 == 29) = true then 1 else 0)) s = .ok z s) ∧ neX oeq z z s = .ok (.bl false) s := by
  by_cases h : len y 2 = 29
  · refine ⟨_, told_good ((ok229 y).mpr h) s, .str "told", rfl, ?_, tt s⟩
    rw [h]; rfl
  · refine ⟨_, told_bad (fun z => h ((ok229 y).mp z)) s, .str "none", rfl, ?_, nn s⟩
    rw [beq_eq_false_iff_ne.mpr h]; rfl
theorem inner (n : Nat) (b : Bool) {e : Slots} {s : Sto} {x : Int} (he : e.length = 7) (h2 : e[2]? = some (some (.ref n))) (hx : 0 ≤ x) (h : s[n]? = some (dr x 0 b)) :
    ∃ e' s', loopF (tgN 3) B0_law (rng 0 10) e s = .next e' s' ∧ e'.length = 7 ∧ e'[2]? = some (some (.ref n)) ∧ ∃ x, 0 ≤ x ∧ s'[n]? = some (dr x (4 * (10 : Nat)) b) :=
  loop_rng (fun i e s => e.length = 7 ∧ e[2]? = some (some (.ref n)) ∧ ∃ x, 0 ≤ x ∧ s[n]? = some (dr x (4 * (i : Int)) b)) (by
    rintro i e s hi ⟨he, h2, x, hx, h⟩
    obtain ⟨a0, a1, a2, a3, a4, a5, a6, rfl⟩ := len7 he
    obtain rfl : a2 = some (.ref n) := by simpa using h2
    obtain ⟨y, m, d, x1, e1, hx1, ok1⟩ := date_eq h hx (by omega) (by omega)
    have h1 := set_at (x := dr x1 (4 * (i : Int) + 2) b) h
    obtain ⟨y', m', d', x2, e2, hx2, nok⟩ := bent_eq h1 hx1 (by omega) (by omega) ok1
    rw [set_set'] at e2
    obtain ⟨yy, x3, e3, hx3⟩ := year_eq (set_at (x := dr x2 (4 * (i : Int) + 2 + 1) b) h) hx2 (by omega) (by omega)
    rw [set_set', show 4 * (i : Int) + 2 + 1 + 1 = 4 * ((i + 1 : Nat) : Int) by omega] at e3
    have h3 := set_at (x := dr x3 (4 * ((i + 1 : Nat) : Int)) b) h
    obtain ⟨t, et, z, ez, ez2, en⟩ := first_right yy (s.set n (dr x3 (4 * ((i + 1 : Nat) : Int)) b))
    refine ⟨[a0, a1, some (.ref n), some (.int (0 + i)), some (.tup [.int y', .int m', .int d']), some (.int yy), some t], s.set n (dr x3 (4 * ((i + 1 : Nat) : Int)) b), ?_, rfl, rfl, x3, hx3, h3⟩
    unfold B0_law
    simp +decide only [fnM, mRet, mSet, mSeq, mIfS, mDrop, mAsg, mPar, mSetIx, mFor, mRetN, mNext, mAndV, mOrV, mNotV, mOp, mUn, mCall, mVar, mC, mNil, mCons, mTup, mLst, mkL, mIf, mTru, mTruB, mNot, mAnd, mOr, mChain, mSl, mPart, mNoPart, mKw, mMake, mMakeK, mRaise, mTry, handF, unsetR, setX, clrS, anyM, tgN, tgT, setsE,
  List.map_cons, List.map_nil, List.replicate, List.cons_append, List.nil_append, List.append_nil, List.getElem?_cons_zero, List.getElem?_cons_succ, List.set_cons_zero, List.set_cons_succ, List.length_cons, List.length_nil, bind_ok, bind_exc, toS_ok, toS_exc, res_ret, res_next, res_exc,
  add_ii, sub_ii, mod_ii, fdiv_ii, eq_ii, ne_ii, lt_ii, le_ii, gt_ii, ge_ii, neg_i, tru_b, tru_i, putIx, if_true, if_false, Bool.false_eq_true, reduceIte, e1, e2, told_bad nok, self_eq, e3, et, ez, length_eq yy 2 ⟨by omega, by omega⟩, int_b, ez2, en]) ⟨he, h2, x, hx, h⟩
theorem outer (xs : List Int) {e : Slots} {s : Sto} (he : e.length = 7) : ∃ e' s', loopF (tgN 1) B1_law (xs.map .int) e s = .next e' s' ∧ e'.length = 7 ∧ True :=
  loop_ints (fun _ => True) (by
    rintro c e s he -
    obtain ⟨a0, a1, a2, a3, a4, a5, a6, rfl⟩ := len7 he
    obtain ⟨x, b, e1, hx⟩ := draws_eq c s
    obtain ⟨e', s', h1, he, _⟩ := inner s.length b (e := [a0, some (.int c), some (.ref s.length), a3, a4, a5, a6]) rfl rfl hx get_end
    refine ⟨e', s', ?_, he, trivial⟩
    have hr := range1_ok (m := mCons (mC (.int 10)) mNil) (e := [a0, some (.int c), some (.ref s.length), a3, a4, a5, a6]) (s := s ++ [dr x 0 b]) (n := 10) rfl (by omega)
    simp +decide only [fnM, mRet, mSet, mSeq, mIfS, mDrop, mAsg, mPar, mSetIx, mFor, mRetN, mNext, mAndV, mOrV, mNotV, mOp, mUn, mCall, mVar, mC, mNil, mCons, mTup, mLst, mkL, mIf, mTru, mTruB, mNot, mAnd, mOr, mChain, mSl, mPart, mNoPart, mKw, mMake, mMakeK, mRaise, mTry, handF, unsetR, setX, clrS, anyM, tgN, tgT, setsE,
  List.map_cons, List.map_nil, List.replicate, List.cons_append, List.nil_append, List.append_nil, List.getElem?_cons_zero, List.getElem?_cons_succ, List.set_cons_zero, List.set_cons_succ, List.length_cons, List.length_nil, bind_ok, bind_exc, toS_ok, toS_exc, res_ret, res_next, res_exc,
  add_ii, sub_ii, mod_ii, fdiv_ii, eq_ii, ne_ii, lt_ii, le_ii, gt_ii, ge_ii, neg_i, tru_b, tru_i, putIx, if_true, if_false, Bool.false_eq_true, reduceIte, B1_law, e1]
    exact for_next hr h1) xs he trivial
theorem law_ok : lawOk M_law := by
  intro ns hl
  obtain ⟨e', s', h1, he, _⟩ := outer (cutD ns none (some 10) ++ [0]) (e := some (.lst (ns.map .int)) :: List.replicate 6 none) (s := []) rfl
  refine ⟨s', ?_⟩
  show (W_law (some (.lst (ns.map .int)) :: List.replicate 6 none) []).res = _
  unfold W_law
  rw [seq_next (for_next (src_cut ns 10 _ _ hl) h1)]
  obtain ⟨a0, a1, a2, a3, a4, a5, a6, rfl⟩ := len7 he
  have g : ∀ y : Int, len y 2 = 29 → M__law_told [.tup [.int y, .int 2, .int 29]] s' = .ok (.lst [.str "told", .int (cnt y 2 29)]) s' := fun y h => told_good ((ok229 y).mpr h) s'
  have n : ∀ y : Int, len y 2 ≠ 29 → M__law_told [.tup [.int y, .int 2, .int 29]] s' = .ok (.lst [.str "none", .tup [.int y, .int 2, .int 29], .bl true]) s' := fun y h => told_bad (fun z => h ((ok229 y).mp z)) s'
  have i0 : ∀ (x : D) (r : List D), ixO (.lst (x :: r)) (.int 0) s' = .ok x s' := fun x r => by
    show (match atI (x :: r) 0 with | some d => Res.ok d s' | none => .bad) = _
    have : atI (x :: r) 0 = some x := by unfold atI; simp [ixN]
    rw [this]
  have fin : eqX oeq (.lst [.str "none", .str "told", .str "none", .str "told", .str "told", .str "none", .str "told", .str "none", .str "told"]) (.lst [.str "none", .str "told", .str "none", .str "told", .str "told", .str "none", .str "told", .str "none", .str "told"]) s' = .ok (.bl true) s' := eqD_self (d := .lst [.str "none", .str "told", .str "none", .str "told", .str "told", .str "none", .str "told", .str "none", .str "told"]) (p := .list [.str "none", .str "told", .str "none", .str "told", .str "told", .str "none", .str "told", .str "none", .str "told"]) (k := id) s' rfl (by decide +kernel)
  simp +decide only [fnM, mRet, mSet, mSeq, mIfS, mDrop, mAsg, mPar, mSetIx, mFor, mRetN, mNext, mAndV, mOrV, mNotV, mOp, mUn, mCall, mVar, mC, mNil, mCons, mTup, mLst, mkL, mIf, mTru, mTruB, mNot, mAnd, mOr, mChain, mSl, mPart, mNoPart, mKw, mMake, mMakeK, mRaise, mTry, handF, unsetR, setX, clrS, anyM, tgN, tgT, setsE,
  List.map_cons, List.map_nil, List.replicate, List.cons_append, List.nil_append, List.append_nil, List.getElem?_cons_zero, List.getElem?_cons_succ, List.set_cons_zero, List.set_cons_succ, List.length_cons, List.length_nil, bind_ok, bind_exc, toS_ok, toS_exc, res_ret, res_next, res_exc,
  add_ii, sub_ii, mod_ii, fdiv_ii, eq_ii, ne_ii, lt_ii, le_ii, gt_ii, ge_ii, neg_i, tru_b, tru_i, putIx, if_true, if_false, Bool.false_eq_true, reduceIte, mComp, itemsL, compF, wipeE, mYes, bindN_ok', g 2000 (by decide), g 2024 (by decide), g 0 (by decide), g (-4) (by decide), g (-400) (by decide), n 1900 (by decide), n 2023 (by decide), n (-1) (by decide), n (-100) (by decide), i0, fin]
end K02
end
section
open PySem PySem.W PyProof.Rows
set_option Elab.async false
set_option maxRecDepth 100000 in
set_option maxHeartbeats 0 in
theorem PySem.Challenge.cw_plainford_k02_dates_that_are_none_holds : PySem.Challenge.rw_plainford_k02_dates_that_are_none.Holds := by
  exact K02.done K02.law_ok
end
